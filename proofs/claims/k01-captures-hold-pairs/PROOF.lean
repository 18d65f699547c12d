import PyProof.Rows.All
import Wide.All
import OpenK.AllK
import Wide.FinOn
import KE.KStateDown
import HandS.Words
import HandS.WordsExc
import HandS.Defaults
import HandS.Head0
import HandS.Head1
import HandS.Head2
import HandS.HeadEnd
import HandS.HeadHook1
import HandS.HeadHook2
import HandS.Exc
import HandS.HeadNt
import HandS.ForMost
import HandS.DictComp
import HandS.IsInst
import HandS.FStr
import HandS.Wide
import HandS.WideBits
import HandS.Conv
import HandS.Walk
import HandS.More
import HandS.ListItems
import KE.KOpsOwn
import PyProof.DictUpdate
import PyProof.TwoTypes
import HandS.WordsDict
import HandS.Ends
import HandS.ForExc
import HandS.CallSlots
import KE.KExcSuper
import HandS.ExcInit
import HandS.ExcSuper
import KE.KExcIs
import HandS.ExcValue
import HandS.ListEq
import HandS.DictEq
import HandS.DeepEq
import HandS.SlotsOwn
import HandS.Style
import HandS.Deep
import HandS.TupAny
import HandS.Flt
import HandS.TupSets
import HandS.SortOrd
import HandS.SortRule
import KE.KSortTupAny
import KE.KCallOwn
import HandS.RaiseMore
import HandS.ClsMeth
import HandS.Text
import HandS.Codes
import HandS.Rev
import KE.KDictList
import HandS.Star
import PySem.Challenge.RW_bindspan_k01_captures_hold_pairs
set_option Elab.async false
set_option linter.all false
set_option maxRecDepth 100000
set_option maxHeartbeats 0
/-! the head by one run: what is asked -/
namespace DL
end DL
namespace DH
open PySem PySem.Spec PyProof.Rows L2 DL
open PySem.W (Frag findIn nsIn keepIn subIn typeIn hasDictIn clsIn mroIn alongIn specialIn takesIn codeIn kitOne)
abbrev eqO := He.eqO
structure SupQ where
  cls : Str
  st : Stmt
  fl : List Str
abbrev SupV : Type := Option (Arguments × FuncBody × Scope)
def initA (K : Frag) (x : Str) : Addr := He.ma K (He.ga K x) "__init__"
def supV (K : Frag) (q : SupQ) : SupV := match K.lookup (initA K q.cls) with
  | some ⟨_, _, .func fd, _⟩ => some (fd.params, fd.body, fd.scope)
  | _ => none
def SupQ.val (q : SupQ) : SupV := some (defArgs q.st, .stmts (defBody q.st), defScope q.st)
def shB (K : Frag) (C : Addr) : Bool := match K.lookup C with
  | some ⟨.type t, _, .cls cd, sl⟩ => decide (t = "type") && (match cd.mro, sl.toList with
    | .ref C' :: bm, [_, _, _, _, some (.builtin n), _] => decide (C' = C) && (decide (n = "ValueError.__new__") && (!cd.hasDel && (cd.hasDict && (PySem.HandSPX.refsVE bm && eqO (alongIn K "__init__" bm) (some (some (.builtin "ValueError.__init__")))))))
    | _, _ => false)
  | _ => false
def fileB (K : Frag) (file : Str) : Value → Bool
  | .ref c => (match K.lookup c with
    | some ⟨_, _, .fields vs, _⟩ => (match (vs[2]? : Option Value) with
      | some (.str z _) => file == z
      | _ => false)
    | _ => false)
  | _ => false
def cellB (K : Frag) (C : Addr) (cl : List (Str × Addr)) : Bool := match cl.lookup ("__class__" : Str) with
  | some cc => (match K.lookup cc with
    | some ⟨_, _, .cell (some (.ref C')), _⟩ => decide (C' = C)
    | _ => false)
  | none => false
def noneB : Value → Bool
  | .none => true
  | _ => false
def funB (K : Frag) (file : Str) (C fI : Addr) : Bool := match K.lookup fI with
  | some ⟨_, _, .func fd, _⟩ => decide (fd.globals = mainGlobals) && (decide (fd.builtins = builtinsNs) && (noneB fd.defaults && (codeIn K fd.code fd.qualname && (fileB K file fd.code && cellB K C fd.closure))))
  | _ => false
def supB (K : Frag) (file : Str) (q : SupQ) : Bool :=
  shB K (He.ga K q.cls) && (eqO (findIn K (.ref (He.ga K q.cls)) "__setattr__") (some (some (.builtin "object.__setattr__"))) && (eqO (findIn K (.ref (He.ga K q.cls)) "__getattribute__") (some (some (.builtin "BaseException.__getattribute__"))) &&
  (eqO (findIn K (.ref (He.ga K q.cls)) "__getattr__") (some none) && (q.fl.all (fun f => eqO (findIn K (.ref (He.ga K q.cls)) f) (some none)) && (eqO (findIn K (.ref (He.ga K q.cls)) "__init__") (some (some (.ref (initA K q.cls)))) &&
  (decide (typeIn K (.ref (initA K q.cls)) = some (.type "function")) && (keepIn K (.ref (He.ga K q.cls)) && (decide (subIn K (.ref (He.ga K q.cls)) (.type "BaseException") = some true) && (decide (subIn K (.ref (He.ga K q.cls)) (.type "ValueError") = some true) &&
  (eqO (nsIn K cStatics "thirdparty.any") (some none) && funB K file (He.ga K q.cls) (initA K q.cls)))))))))))
def exiB (K : Frag) (C : Addr) : Bool := (clsIn K C).isSome && (eqO (findIn K (.ref C) "__getattribute__") (some (some (.builtin "BaseException.__getattribute__"))) && (eqO (findIn K (.ref C) "__getattr__") (some none) && (decide (subIn K (.ref C) (.type "BaseException") = some true) && (hasDictIn K C &&
  (eqO (findIn K (.ref C) "__class__") (some (some (.builtin "object.__class__"))) && decide (mroIn K C (.type "object") = some true))))))
/-- own classes whose instances are asked by isinstance -/
def isiB (K : Frag) (C : Addr) : Bool := eqO (findIn K (.ref C) "__class__") (some (some (.builtin "object.__class__"))) && decide (mroIn K C (.type "object") = some true)
def mroL (K : Frag) (C : Addr) : Option (List Value) := (clsIn K C).map (·.mro)
/-- the written classes, a class itself -/
def clsB (K : Frag) (C : Addr) : Bool := (clsIn K C).isSome && (typeIn K (.ref C) == some (.type "type"))
structure Ask where
  n : Nat
  fa : List He.Fa
  fn : List He.DefD
  sup : List SupQ
  file : Str
  ex : Frag → Bool
  fna : List He5.DefA := []
abbrev Al : Type := Bool × List He.FnW × List SupV
/-- what is looked at: the module's names, the classes' own names, the code and the cells of defs -/
def refsN (o : Obj) : List Addr := match o.data with
  | .dict es _ => es.toList.filterMap fun e => match e.val with
    | .ref a => some a
    | _ => none
  | _ => []
def refsC (o : Obj) : List Addr := match o.data with
  | .cls cd => [cd.ns]
  | .func fd => He.refV fd.code ++ (He.refV fd.defaults ++ (He.refV fd.kwdefaults ++ fd.closure.map (·.2)))
  | _ => []
/-- the defs that a classmethod's or a property's record holds -/
def refsR (o : Obj) : List Addr := match o.cls, o.data with
  | .type n, .fields vs => if n == "classmethod" || n == "property" then vs.toList.flatMap He.refV else []
  | _, _ => []
def stepA (f : Obj → List Addr) (g : Addr → Option Obj) (as : List Addr) : List Addr := as.flatMap fun a => match g a with
  | some o => f o
  | none => []
def asN (g : Addr → Option Obj) : List Addr := stepA refsN g [mainGlobals]
def asC (g : Addr → Option Obj) : List Addr := stepA refsC g (asN g)
def asM (g : Addr → Option Obj) : List Addr := stepA refsN g (asC g)
def asP (g : Addr → Option Obj) : List Addr := stepA refsR g (asM g)
def refsT (o : Obj) : List Addr := match o.data with
  | .seq its _ => its.toList.flatMap He.refV
  | _ => []
def asAll (g : Addr → Option Obj) : List Addr := asN g ++ (asC g ++ (asM g ++ (stepA refsC g (asM g) ++ (asP g ++ (stepA refsC g (asP g) ++ (stepA refsT g (stepA refsC g (asM g)) ++ [cStatics, mainGlobals]))))))
def kOf (n : Nat) (g : Addr → Option Obj) : Frag := He.frG g (asAll g)
def obsK (q : Ask) (K : Frag) : Al := ((q.fa.all fun f => f.ok K) && ((q.fn.all fun d => d.ok K) && ((q.sup.all fun d => supB K q.file d) && ((q.fna.all fun d => d.ok K) && q.ex K))), q.fn.map (fun d => He.fnW K d.at_) ++ q.fna.map (fun d => He5.fnA K (d.at_ K)), q.sup.map fun d => supV K d)
def valA (q : Ask) : Al := (true, q.fn.map He.DefD.val ++ q.fna.map He5.DefA.val, q.sup.map SupQ.val)
def obsA (q : Ask) (g : Addr → Option Obj) : Al := obsK q (kOf q.n g)
def hook (q : Ask) : PySem.W.Hook where
  α := Al
  obs := fun s => obsA q s.heap.get?
  val := fun _ => valA q
  says := fun _ h => ∃ K : Frag, K.In h ∧ obsK q K = valA q
  of := fun _ _ e => ⟨_, He.frG_in, e⟩
  keeps := fun _ _ _ ⟨K, hK, c⟩ k => ⟨K, PySem.W.Frag.In.keeps hK k, c⟩
theorem obs_eq (q : Ask) (s : PySem.W.SharedT) : obsA q (HandSHeadRun.getT s) = (hook q).obs s.abs := by
  have e : HandSHeadRun.getT s = s.abs.heap.get? := funext fun a => HandSHeadRun.getT_eq s a
  rw [e] <;> rfl
end DH

namespace K01
open PySem L2 DL
def top (i : Nat) : Stmt := PySem.Challenge.pw_bindspan_k01_captures_hold_pairs.main.body.getD i (.Pass ⟨0, 0, 0, 0⟩)
abbrev s_is_word : Stmt := top 10
abbrev s_is_identifier : Stmt := top 11
abbrev s_is_pair : Stmt := top 15
abbrev s_in_order : Stmt := top 16
abbrev s_Captures_init : Stmt := inClass (top 18) 0
abbrev s_Captures_of : Stmt := inClass (top 18) 1
abbrev s_Captures_len : Stmt := inClass (top 18) 4
abbrev s_Captures_bool : Stmt := inClass (top 18) 5
abbrev s_Captures_at : Stmt := inClass (top 18) 18
abbrev s_law_tape : Stmt := top 23
abbrev s_law_draw : Stmt := top 24
abbrev s_law_kept : Stmt := top 25
abbrev s_law_signs : Stmt := top 26
abbrev s_law_spelled : Stmt := top 27
abbrev s_law_ident : Stmt := top 28
abbrev s_law_number : Stmt := top 29
abbrev s_law_pairs : Stmt := top 30
abbrev s_law_ascending : Stmt := top 31
abbrev s_law_agrees : Stmt := top 32
abbrev s_law : Stmt := top 33
structure Ad where
  C_Captures : Addr
  f_is_word : Addr
  d_is_word : FuncData
  f_is_identifier : Addr
  d_is_identifier : FuncData
  f_is_pair : Addr
  d_is_pair : FuncData
  f_in_order : Addr
  d_in_order : FuncData
  f_Captures_init : Addr
  d_Captures_init : FuncData
  f_Captures_of : Addr
  d_Captures_of : FuncData
  f_Captures_len : Addr
  d_Captures_len : FuncData
  f_Captures_bool : Addr
  d_Captures_bool : FuncData
  f_Captures_at : Addr
  d_Captures_at : FuncData
  f_law_tape : Addr
  d_law_tape : FuncData
  f_law_draw : Addr
  d_law_draw : FuncData
  f_law_kept : Addr
  d_law_kept : FuncData
  f_law_signs : Addr
  d_law_signs : FuncData
  f_law_spelled : Addr
  d_law_spelled : FuncData
  f_law_ident : Addr
  d_law_ident : FuncData
  f_law_number : Addr
  d_law_number : FuncData
  f_law_pairs : Addr
  d_law_pairs : FuncData
  f_law_ascending : Addr
  d_law_ascending : FuncData
  f_law_agrees : Addr
  d_law_agrees : FuncData
  f_law : Addr
  d_law : FuncData
  t_LETTERS : Tok
  t_DIGITS : Tok
  t_LONGEST : Tok
  p_KEPT : Addr
  t_MOST_NUMBER : Tok
  e_Captures : Addr
  p_Captures_of : Addr
def nf (a : Ad) : Addr → Nat := fun c => if c = a.C_Captures then 1 else 0
def keptV : List V := [.str "name", .str "flag", .str "slot", .str "func", .str "open", .str "own", .str "look", .str "bind", .str "call", .str "keep", .str "take", .str "shift", .str "run", .str "drop", .str "apart", .str "when", .str "held", .str "fail", .str "guard", .str "else", .str "after", .str "end", .str "with", .str "of", .str "on", .str "off"]
theorem sc_is_word : FnScope ["value", "sign"] ["value"] (defScope s_is_word) := ⟨rfl, rfl, rfl, by decide +kernel, rfl, by decide +kernel, by decide +kernel⟩
theorem sc_is_identifier : FnScope ["value"] ["value"] (defScope s_is_identifier) := ⟨rfl, rfl, rfl, by decide +kernel, rfl, by decide +kernel, by decide +kernel⟩
theorem sc_is_pair : FnScope ["value", "number", "ident"] ["value"] (defScope s_is_pair) := ⟨rfl, rfl, rfl, by decide +kernel, rfl, by decide +kernel, by decide +kernel⟩
theorem sc_in_order : FnScope ["pairs", "pair"] ["pairs"] (defScope s_in_order) := ⟨rfl, rfl, rfl, by decide +kernel, rfl, by decide +kernel, by decide +kernel⟩
theorem sc_Captures_init : FnScope ["self", "pairs"] ["self", "pairs"] (defScope s_Captures_init) := ⟨rfl, rfl, rfl, by decide +kernel, rfl, by decide +kernel, by decide +kernel⟩
theorem sc_Captures_of : FnScope ["cls", "pairs"] ["cls", "pairs"] (defScope s_Captures_of) := ⟨rfl, rfl, rfl, by decide +kernel, rfl, by decide +kernel, by decide +kernel⟩
theorem sc_Captures_len : FnScope ["self"] ["self"] (defScope s_Captures_len) := ⟨rfl, rfl, rfl, by decide +kernel, rfl, by decide +kernel, by decide +kernel⟩
theorem sc_Captures_bool : FnScope ["self"] ["self"] (defScope s_Captures_bool) := ⟨rfl, rfl, rfl, by decide +kernel, rfl, by decide +kernel, by decide +kernel⟩
theorem sc_Captures_at : FnScope ["self", "number", "pair"] ["self", "number"] (defScope s_Captures_at) := ⟨rfl, rfl, rfl, by decide +kernel, rfl, by decide +kernel, by decide +kernel⟩
theorem sc_law_tape : FnScope ["_law_script", "_law_k", "_law_cell"] ["_law_script", "_law_k"] (defScope s_law_tape) := ⟨rfl, rfl, rfl, by decide +kernel, rfl, by decide +kernel, by decide +kernel⟩
theorem sc_law_draw : FnScope ["_law_tape_here", "_law_many", "_law_digit", "_law_prime", "_law_base", "_law_mixed"] ["_law_tape_here", "_law_many"] (defScope s_law_draw) := ⟨rfl, rfl, rfl, by decide +kernel, rfl, by decide +kernel, by decide +kernel⟩
theorem sc_law_kept : FnScope ["_law_text"] [] (defScope s_law_kept) := ⟨rfl, rfl, rfl, by decide +kernel, rfl, by decide +kernel, by decide +kernel⟩
theorem sc_law_signs : FnScope [] [] (defScope s_law_signs) := ⟨rfl, rfl, rfl, by decide +kernel, rfl, by decide +kernel, by decide +kernel⟩
theorem sc_law_spelled : FnScope ["_law_tape_here", "_law_used", "_law_shape", "_law_size", "_law_word", "_law_place"] ["_law_tape_here", "_law_used"] (defScope s_law_spelled) := ⟨rfl, rfl, rfl, by decide +kernel, rfl, by decide +kernel, by decide +kernel⟩
theorem sc_law_ident : FnScope ["_law_tape_here", "_law_used", "_law_word", "_law_number_here"] ["_law_tape_here", "_law_used"] (defScope s_law_ident) := ⟨rfl, rfl, rfl, by decide +kernel, rfl, by decide +kernel, by decide +kernel⟩
theorem sc_law_number : FnScope ["_law_tape_here"] ["_law_tape_here"] (defScope s_law_number) := ⟨rfl, rfl, rfl, by decide +kernel, rfl, by decide +kernel, by decide +kernel⟩
theorem sc_law_pairs : FnScope ["_law_script", "_law_first", "_law_last", "_law_pairs_here", "_law_k", "_law_tape_here", "_law_again", "_law_pair", "_law_old"] ["_law_script", "_law_first", "_law_last"] (defScope s_law_pairs) := ⟨rfl, rfl, rfl, by decide +kernel, rfl, by decide +kernel, by decide +kernel⟩
theorem sc_law_ascending : FnScope ["_law_pairs_here", "_law_found", "_law_pair"] ["_law_pairs_here"] (defScope s_law_ascending) := ⟨rfl, rfl, rfl, by decide +kernel, rfl, by decide +kernel, by decide +kernel⟩
theorem sc_law_agrees : FnScope ["_law_made", "_law_due", "_law_numbers", "_law_pair", "_law_number_here"] ["_law_made", "_law_due"] (defScope s_law_agrees) := ⟨rfl, rfl, rfl, by decide +kernel, rfl, by decide +kernel, by decide +kernel⟩
theorem sc_law : FnScope ["_law_script", "_law_pairs_here", "_law_due", "_law_handed", "_law_made", "_law_some", "_law_single", "_law_none"] ["_law_script"] (defScope s_law) := ⟨rfl, rfl, rfl, by decide +kernel, rfl, by decide +kernel, by decide +kernel⟩
end K01

/-! what the head is asked of own operators -/
namespace DH
open PySem L2
open PySem.W (Frag findIn subIn kitOne selfFirst isFn)
/-- an operator nm of the class x, own methods m and r (reflected); list and tuple know none -/
def opsB (K : Frag) (x : Str) (nm : String) (m r : Str) : Bool :=
  selfFirst K (He.ga K x) && (eqO (findIn K (.ref (He.ga K x)) (dunder nm)) (some (some (.ref (He.ma K (He.ga K x) m)))) && (isFn K (.ref (He.ma K (He.ga K x) m)) && (eqO (findIn K (.ref (He.ga K x)) (dunderR nm)) (some (some (.ref (He.ma K (He.ga K x) r)))) && (isFn K (.ref (He.ma K (He.ga K x) r)) &&
  (eqO (findIn K (.type "list") (dunder nm)) (some none) && (eqO (findIn K (.type "list") (dunderR nm)) (some none) && (decide (subIn K (.type "list") (.ref (He.ga K x)) = some false) && (eqO (findIn K (.type "tuple") (dunder nm)) (some none) && (eqO (findIn K (.type "tuple") (dunderR nm)) (some none) && decide (subIn K (.type "tuple") (.ref (He.ga K x)) = some false))))))))))
/-- a classmethod m of the class x; how the class is read -/
def cmB (K : Frag) (x m : Str) : Bool := He5.wrapB K (He.ga K x) "classmethod" "classmethod.__get__" m && PySem.W.fnIn K (He5.wf K (He.ga K x) "classmethod" m)
def crB (K : Frag) (x : Str) : Bool := PySem.W.readsIn K (He.ga K x) (.type "type") && eqO (PySem.W.specialIn K (.ref (He.ga K x)) "__getattribute__") (some (some (.builtin "type.__getattribute__")))
/-- the empty tuple at e -/
def tup0B (K : Frag) (e : Addr) : Bool := match K.lookup e with
  | some ⟨.type c, _, .seq its _, _⟩ => decide (c = "tuple") && decide (its.toList = [])
  | _ => false
def kitB0 (K : Frag) (t : String) (x : Str) : Bool := decide (kitOne K (.type t) (.ref (He.ga K x)) = some false)
end DH

namespace K01
open PySem L2 DL

def df_is_word : He.DefD := ⟨("is_word", none), "is_word", "is_word", defArgs s_is_word, defBody s_is_word, defScope s_is_word, [], []⟩
def df_is_identifier : He.DefD := ⟨("is_identifier", none), "is_identifier", "is_identifier", defArgs s_is_identifier, defBody s_is_identifier, defScope s_is_identifier, [], []⟩
def df_is_pair : He.DefD := ⟨("is_pair", none), "is_pair", "is_pair", defArgs s_is_pair, defBody s_is_pair, defScope s_is_pair, [], []⟩
def df_in_order : He.DefD := ⟨("in_order", none), "in_order", "in_order", defArgs s_in_order, defBody s_in_order, defScope s_in_order, [], []⟩
def df_Captures_init : He.DefD := ⟨("Captures", some "__init__"), "__init__", "Captures.__init__", defArgs s_Captures_init, defBody s_Captures_init, defScope s_Captures_init, [.adr (He.dflAt ("Captures", some "__init__") 0)], []⟩
def df_Captures_of : He5.DefA := ⟨fun K => (He5.wf K (He.ga K "Captures") "classmethod" "of"), "of", "Captures.of", defArgs s_Captures_of, defBody s_Captures_of, defScope s_Captures_of, [], []⟩
def df_Captures_len : He.DefD := ⟨("Captures", some "__len__"), "__len__", "Captures.__len__", defArgs s_Captures_len, defBody s_Captures_len, defScope s_Captures_len, [], []⟩
def df_Captures_bool : He.DefD := ⟨("Captures", some "__bool__"), "__bool__", "Captures.__bool__", defArgs s_Captures_bool, defBody s_Captures_bool, defScope s_Captures_bool, [], []⟩
def df_Captures_at : He.DefD := ⟨("Captures", some "at"), "at", "Captures.at", defArgs s_Captures_at, defBody s_Captures_at, defScope s_Captures_at, [], []⟩
def df_law_tape : He.DefD := ⟨("_law_tape", none), "_law_tape", "_law_tape", defArgs s_law_tape, defBody s_law_tape, defScope s_law_tape, [], []⟩
def df_law_draw : He.DefD := ⟨("_law_draw", none), "_law_draw", "_law_draw", defArgs s_law_draw, defBody s_law_draw, defScope s_law_draw, [], []⟩
def df_law_kept : He.DefD := ⟨("_law_kept", none), "_law_kept", "_law_kept", defArgs s_law_kept, defBody s_law_kept, defScope s_law_kept, [], []⟩
def df_law_signs : He.DefD := ⟨("_law_signs", none), "_law_signs", "_law_signs", defArgs s_law_signs, defBody s_law_signs, defScope s_law_signs, [], []⟩
def df_law_spelled : He.DefD := ⟨("_law_spelled", none), "_law_spelled", "_law_spelled", defArgs s_law_spelled, defBody s_law_spelled, defScope s_law_spelled, [], []⟩
def df_law_ident : He.DefD := ⟨("_law_ident", none), "_law_ident", "_law_ident", defArgs s_law_ident, defBody s_law_ident, defScope s_law_ident, [], []⟩
def df_law_number : He.DefD := ⟨("_law_number", none), "_law_number", "_law_number", defArgs s_law_number, defBody s_law_number, defScope s_law_number, [], []⟩
def df_law_pairs : He.DefD := ⟨("_law_pairs", none), "_law_pairs", "_law_pairs", defArgs s_law_pairs, defBody s_law_pairs, defScope s_law_pairs, [], []⟩
def df_law_ascending : He.DefD := ⟨("_law_ascending", none), "_law_ascending", "_law_ascending", defArgs s_law_ascending, defBody s_law_ascending, defScope s_law_ascending, [], []⟩
def df_law_agrees : He.DefD := ⟨("_law_agrees", none), "_law_agrees", "_law_agrees", defArgs s_law_agrees, defBody s_law_agrees, defScope s_law_agrees, [], []⟩
def df_law : He.DefD := ⟨("law", none), "law", "law", defArgs s_law, defBody s_law, defScope s_law, [], []⟩
def fas0 : List He.Fa := [.glo "is_word", .glo "is_identifier", .glo "is_pair", .glo "in_order", .glo "_law_tape", .glo "_law_draw", .glo "_law_kept", .glo "_law_signs", .glo "_law_spelled", .glo "_law_ident", .glo "_law_number", .glo "_law_pairs", .glo "_law_ascending", .glo "_law_agrees", .glo "law"]
def fas1 : List He.Fa := [.glo "Captures", .free "set", .free "min", .free "len", .free "int", .free "str", .free "all", .free "tuple", .free "list", .free "sorted", .free "isinstance", .free "range", .free "bool", .cls "Captures", .noat "Captures" "pairs"]
def fas2 : List He.Fa := [.mkr "Captures", .meth "Captures" "__len__", .meth "Captures" "__bool__", .meth "Captures" "at", .str "LETTERS" "abcdefghijklmnopqrstuvwxyz", .str "DIGITS" "0123456789", .int "LONGEST" 12, .glo "KEPT", .int "MOST_NUMBER" (10 ^ 60)]
def fas : List He.Fa := fas0 ++ fas1 ++ fas2
def fns0 : List He.DefD := [df_is_word, df_is_identifier, df_is_pair, df_in_order, df_Captures_init, df_Captures_len, df_Captures_bool, df_Captures_at, df_law_tape, df_law_draw, df_law_kept, df_law_signs, df_law_spelled, df_law_ident, df_law_number]
def fns1 : List He.DefD := [df_law_pairs, df_law_ascending, df_law_agrees, df_law]
def fns : List He.DefD := fns0 ++ fns1
def fnas : List He5.DefA := [df_Captures_of]
def sups0 : List DH.SupQ := []
def sups : List DH.SupQ := sups0
def exC (K : PySem.W.Frag) : Bool := DH.tup0B K (He.dflAt ("Captures", some "__init__") 0 K)
def tv_KEPT : List He.Dv := [.str "name", .str "flag", .str "slot", .str "func", .str "open", .str "own", .str "look", .str "bind", .str "call", .str "keep", .str "take", .str "shift", .str "run", .str "drop", .str "apart", .str "when", .str "held", .str "fail", .str "guard", .str "else", .str "after", .str "end", .str "with", .str "of", .str "on", .str "off"]
def exs (K : PySem.W.Frag) : Bool := DH.isiB K (He.ga K "Captures") && (DH.cmB K "Captures" "of" && (DH.crB K "Captures" && (He.tupB K "KEPT" tv_KEPT && (exC K))))
def ask : DH.Ask := { n := 0, fa := fas, fn := fns, sup := sups, file := PySem.Challenge.pw_bindspan_k01_captures_hold_pairs.main.file, ex := exs, fna := fnas }
abbrev R : PySem.W.OpenRow := PySem.W.OpenLaw.row PySem.Challenge.rw_bindspan_k01_captures_hold_pairs
def names0 : List PySem.Str := ["_wall", "__name__", "BindspanError", "BadCaptures", "BadPair", "LETTERS", "DIGITS", "LONGEST", "KEPT", "is_word", "is_identifier", "MOST_DIGITS", "MOST_NUMBER", "is_pair", "in_order", "read_pair", "Captures", "pairs_of", "shared_pairs", "missing_pairs"]
def names1 : List PySem.Str := ["_law_tape", "_law_draw", "_law_kept", "_law_signs", "_law_spelled", "_law_ident", "_law_number", "_law_pairs", "_law_ascending", "_law_agrees"]
def names : List PySem.Str := names0 ++ names1
theorem run (w : World) : HandSHeadRun.RunEq R (PySem.W.view R.prog [33]) (DH.hook ask) (fun s => DH.obsA ask (HandSHeadRun.getT s)) 20000 names w := by
  intro os
  kernel_rfl
end K01

/-! D-layer: heap-free readings over HandS. Data D, slots SD, lifts. -/
namespace DL
open PySem L2

/-- deep data; `cls a`: an object known by its address alone -/
inductive D where
  | non | bl (b : Bool) | int (i : Int) | str (s : Str) | ty (n : String) | cls (a : Addr)
  | tup (xs : List D) | lst (xs : List D) | dct (kvs : List (Key × D)) | obj (C : Addr) (fs : List (Str × D)) | scr (ns : List Int) | exc (C : Addr) (fs : List (Str × D))

section
variable (K : PySem.W.Frag) (nf : Addr → Nat) (H : Hp)
/-- a list that is read and never written any more -/
def FzL (a : Addr) (xs : List V) : Prop := ∃ o, H a = some (.frz o (.lst xs))
/-- the law's script: a list that nobody writes, or one of the module -/
def ScrL (a : Addr) (xs : List V) : Prop := FzL H a xs ∨ ∃ (o : Obj) (its : Array Value) (n : Nat), K.lookup a = some o ∧ o.cls = .type "list" ∧ o.dict = none ∧ o.data = .seq its n ∧ its.size ≤ sizeLine ∧ Vals xs its.toList
/-- an error held as a value: its object, its fields -/
def ExcV (a C : Addr) (oe : Obj) (fs : List (Str × V)) : Prop := H a = some (.frz oe (.ext fun _ => True)) ∧ oe.cls = .ref C ∧ (∃ vs, oe.data = .fields vs) ∧ ((oe.dict = none ∧ fs = []) ∨ ∃ dx od, oe.dict = some dx ∧ H dx = some (.frz od (.xd fs)))
mutual
inductive Rel : V → D → Prop
  | non : Rel .non .non
  | bl (b : Bool) : Rel (.bl b) (.bl b)
  | int (i : Int) : Rel (.int i) (.int i)
  | str (s : Str) : Rel (.str s) (.str s)
  | ty (n : String) : Rel (.ty n) (.ty n)
  | cls (a : Addr) : Rel (.ref a) (.cls a)
  | tup {a : Addr} {vs : List V} {ds : List D} : SqT K H a vs → Rels vs ds → Rel (.ref a) (.tup ds)
  | lst {a : Addr} {vs : List V} {ds : List D} : FzL H a vs → Rels vs ds → Rel (.ref a) (.lst ds)
  | dct {a : Addr} {o : Obj} {kvs : List (Key × V)} {kds : List (Key × D)} : H a = some (.frz o (.dK kvs)) → RelK kvs kds → Rel (.ref a) (.dct kds)
  | obj {a C dx : Addr} {fs : List (Str × V)} {fds : List (Str × D)} : H a = some (.ins C dx fs) → nf C ≠ 0 → fs.length = nf C → RelF fs fds → Rel (.ref a) (.obj C fds)
  | scr {a : Addr} {ns : List Int} : ScrL K H a (ns.map .int) → Rel (.ref a) (.scr ns)
  | exc {a C : Addr} {oe : Obj} {fs : List (Str × V)} {fds : List (Str × D)} : ExcV H a C oe fs → RelF fs fds → Rel (.ref a) (.exc C fds)
inductive Rels : List V → List D → Prop
  | nil : Rels [] []
  | cons {v : V} {vs : List V} {d : D} {ds : List D} : Rel v d → Rels vs ds → Rels (v :: vs) (d :: ds)
inductive RelK : List (Key × V) → List (Key × D) → Prop
  | nil : RelK [] []
  | cons {k : Key} {v : V} {vs : List (Key × V)} {d : D} {ds : List (Key × D)} : Rel v d → RelK vs ds → RelK ((k, v) :: vs) ((k, d) :: ds)
inductive RelF : List (Str × V) → List (Str × D) → Prop
  | nil : RelF [] []
  | cons {k : Str} {v : V} {vs : List (Str × V)} {d : D} {ds : List (Str × D)} : Rel v d → RelF vs ds → RelF ((k, v) :: vs) ((k, d) :: ds)
end
end

/-- never written any more -/
def Fzn (nf : Addr → Nat) : HO → Prop
  | .tup _ => True
  | .frz _ _ => True
  | .ins C _ fs => nf C ≠ 0 ∧ fs.length = nf C
  | _ => False
def Stp (nf : Addr → Nat) (H H' : Hp) : Prop := ∀ a u, H a = some u → Fzn nf u → H' a = some u

section
variable {K : PySem.W.Frag} {nf : Addr → Nat} {H H' H1 H2 : Hp}
theorem Stp.refl : Stp nf H H := fun _ _ h _ => h
theorem Stp.trans (a : Stp nf H H1) (b : Stp nf H1 H2) : Stp nf H H2 := fun x u h f => b x u (a x u h f) f
theorem FzL.mono {a : Addr} {xs : List V} (e : Stp nf H H') (h : FzL H a xs) : FzL H' a xs := by
  obtain ⟨o, h⟩ := h
  exact ⟨o, e _ _ h trivial⟩
theorem FzL.rd {a : Addr} {xs : List V} (h : FzL H a xs) : Rd H a (.lst xs) := .inr h
theorem FzL.sq {a : Addr} {xs : List V} (h : FzL H a xs) : SqL K H a xs := .inl (.inr h)
theorem ScrL.mono {a : Addr} {xs : List V} (e : Stp nf H H') (h : ScrL K H a xs) : ScrL K H' a xs := h.imp (fun z => z.mono e) id
theorem ScrL.sq {a : Addr} {xs : List V} (h : ScrL K H a xs) : SqL K H a xs := by
  rcases h with h | h
  · exact h.sq
  · exact .inr h
theorem ScrL.of {a : Addr} {xs : List V} (h : SqL K H a xs) (hO : ∀ b, H b = none ∨ ∃ o xs, H b = some (.frz o (.lst xs))) : ScrL K H a xs := by
  rcases h with (h | h) | h
  · rcases hO a with z | ⟨o, ys, z⟩
    · rw [h] at z; cases z
    · rw [h] at z; cases z
  · exact .inl h
  · exact .inr h
theorem sqT_mono {a : Addr} {xs : List V} (e : Stp nf H H') (h : SqT K H a xs) : SqT K H' a xs := by
  rcases h with (h | ⟨o, h⟩) | h
  · exact .inl (.inl (e _ _ h trivial))
  · exact .inl (.inr ⟨o, e _ _ h trivial⟩)
  · exact .inr h
theorem ExcV.mono {a C : Addr} {oe : Obj} {fs : List (Str × V)} (e : Stp nf H H') (h : ExcV H a C oe fs) : ExcV H' a C oe fs := by
  obtain ⟨h1, h2, h3, h4⟩ := h
  refine ⟨e _ _ h1 trivial, h2, h3, h4.imp id ?_⟩
  rintro ⟨dx, od, d1, d2⟩
  exact ⟨dx, od, d1, e _ _ d2 trivial⟩
mutual
theorem Rel.mono (e : Stp nf H H') : ∀ {v : V} {d : D}, Rel K nf H v d → Rel K nf H' v d
  | _, _, .non => .non
  | _, _, .bl b => .bl b
  | _, _, .int i => .int i
  | _, _, .str s => .str s
  | _, _, .ty n => .ty n
  | _, _, .cls a => .cls a
  | _, _, .tup h r => .tup (sqT_mono e h) (Rels.mono e r)
  | _, _, .lst h r => .lst (h.mono e) (Rels.mono e r)
  | _, _, .dct h r => .dct (e _ _ h trivial) (RelK.mono e r)
  | _, _, .obj h n l r => .obj (e _ _ h ⟨n, l⟩) n l (RelF.mono e r)
  | _, _, .scr h => .scr (h.mono e)
  | _, _, .exc h r => .exc (h.mono e) (RelF.mono e r)
theorem Rels.mono (e : Stp nf H H') : ∀ {vs : List V} {ds : List D}, Rels K nf H vs ds → Rels K nf H' vs ds
  | _, _, .nil => .nil
  | _, _, .cons h r => .cons (Rel.mono e h) (Rels.mono e r)
theorem RelK.mono (e : Stp nf H H') : ∀ {vs : List (Key × V)} {ds : List (Key × D)}, RelK K nf H vs ds → RelK K nf H' vs ds
  | _, _, .nil => .nil
  | _, _, .cons h r => .cons (Rel.mono e h) (RelK.mono e r)
theorem RelF.mono (e : Stp nf H H') : ∀ {vs : List (Str × V)} {ds : List (Str × D)}, RelF K nf H vs ds → RelF K nf H' vs ds
  | _, _, .nil => .nil
  | _, _, .cons h r => .cons (Rel.mono e h) (RelF.mono e r)
end
theorem Rels.length : ∀ {vs : List V} {ds : List D}, Rels K nf H vs ds → vs.length = ds.length
  | _, _, .nil => rfl
  | _, _, .cons _ r => by rw [List.length_cons, List.length_cons, Rels.length r]
theorem Rels.get : ∀ {vs : List V} {ds : List D} {i : Nat} {d : D}, Rels K nf H vs ds → ds[i]? = some d → ∃ v, vs[i]? = some v ∧ Rel K nf H v d
  | _, _, _, _, .nil, e => by simp at e
  | _, _, 0, _, .cons h _, e => by simp at e; subst e; exact ⟨_, rfl, h⟩
  | _, _, i + 1, d, .cons _ r, e => by
    obtain ⟨v, h1, h2⟩ := Rels.get (i := i) (d := d) r (by simpa using e)
    exact ⟨v, by simpa using h1, h2⟩
theorem Rels.getV : ∀ {vs : List V} {ds : List D} {i : Nat} {v : V}, Rels K nf H vs ds → vs[i]? = some v → ∃ d, ds[i]? = some d ∧ Rel K nf H v d
  | _, _, _, _, .nil, e => by simp at e
  | _, _, 0, _, .cons h _, e => by simp at e; subst e; exact ⟨_, rfl, h⟩
  | _, _, i + 1, d, .cons _ r, e => by
    obtain ⟨v, h1, h2⟩ := Rels.getV (i := i) (v := d) r (by simpa using e)
    exact ⟨v, by simpa using h1, h2⟩
theorem Rels.append : ∀ {vs ws : List V} {ds es : List D}, Rels K nf H vs ds → Rels K nf H ws es → Rels K nf H (vs ++ ws) (ds ++ es)
  | _, _, _, _, .nil, s => s
  | _, _, _, _, .cons h r, s => .cons h (Rels.append r s)
theorem Rels.take : ∀ {vs : List V} {ds : List D} (n : Nat), Rels K nf H vs ds → Rels K nf H (vs.take n) (ds.take n)
  | _, _, 0, _ => .nil
  | _, _, _ + 1, .nil => .nil
  | _, _, n + 1, .cons h r => .cons h (Rels.take n r)
theorem Rels.drop : ∀ {vs : List V} {ds : List D} (n : Nat), Rels K nf H vs ds → Rels K nf H (vs.drop n) (ds.drop n)
  | _, _, 0, r => r
  | _, _, _ + 1, .nil => .nil
  | _, _, n + 1, .cons _ r => Rels.drop n r

/-! ### slots -/
/-- an owned thing: its value, the addresses that it owns, what is true of the heap there -/
structure OA (nf : Addr → Nat) where
  inv : V → List Addr → Hp → Prop
  frame : ∀ {v fp H H'}, inv v fp H → (∀ a ∈ fp, H' a = H a) → Stp nf H H' → inv v fp H'
  trk : ∀ {v fp H}, inv v fp H → ∀ a ∈ fp, ∃ u, H a = some u ∧ ¬ Fzn nf u
  nd : ∀ {v fp H}, inv v fp H → fp.Nodup
inductive SD (nf : Addr → Nat) where
  | un | fz (d : D) | ow (v : V) (A : OA nf) | fr (v : V) (d : D)
def SlotR (K : PySem.W.Frag) (nf : Addr → Nat) (H : Hp) (o : Option V) (fp : List Addr) : SD nf → Prop
  | .un => fp = []
  | .fz d => fp = [] ∧ ∃ v, o = some v ∧ Rel K nf H v d
  | .ow v A => o = some v ∧ A.inv v fp H
  | .fr v d => fp = [] ∧ o = some v ∧ Rel K nf H v d
inductive EnvL (K : PySem.W.Frag) (nf : Addr → Nat) (H : Hp) : List (Option V) → List (SD nf) → List Addr → Prop
  | nil : EnvL K nf H [] [] []
  | cons {o σ s env fp fq} : SlotR K nf H o fp s → EnvL K nf H σ env fq → (∀ a ∈ fp, a ∉ fq) → EnvL K nf H (o :: σ) (s :: env) (fp ++ fq)
/-- what may change: the owned objects; new ones may come -/
structure Ch (fp : List Addr) (H : Hp) (fp' : List Addr) (H' : Hp) : Prop where
  keep : ∀ a u, H a = some u → a ∉ fp → H' a = some u
  sub : ∀ a ∈ fp', a ∈ fp ∨ H a = none
  there : ∀ a, H' a = none → H a = none
theorem Ch.refl {fp : List Addr} : Ch fp H fp H := ⟨fun _ _ h _ => h, fun _ h => .inl h, fun _ h => h⟩
theorem Ch.trans {fp fp1 fp2 : List Addr} (x : Ch fp H fp1 H1) (y : Ch fp1 H1 fp2 H2) : Ch fp H fp2 H2 := by
  refine ⟨fun a u h n => y.keep a u (x.keep a u h n) fun m => ?_, fun a m => ?_, fun a h => x.there a (y.there a h)⟩
  · rcases x.sub a m with q | q
    · exact n q
    · rw [q] at h; cases h
  · rcases y.sub a m with q | q
    · exact x.sub a q
    · exact .inr (x.there a q)
theorem SlotR.frame {o : Option V} {fp : List Addr} {s : SD nf} (h : SlotR K nf H o fp s) (k : ∀ a ∈ fp, H' a = H a) (st : Stp nf H H') : SlotR K nf H' o fp s := by
  cases s with
  | un => exact h
  | fz d => obtain ⟨e, v, ev, r⟩ := h; exact ⟨e, v, ev, r.mono st⟩
  | ow v A => exact ⟨h.1, A.frame h.2 k st⟩
  | fr v d => exact ⟨h.1, h.2.1, h.2.2.mono st⟩
theorem SlotR.trk {o : Option V} {fp : List Addr} {s : SD nf} (h : SlotR K nf H o fp s) : ∀ a ∈ fp, ∃ u, H a = some u ∧ ¬ Fzn nf u := by
  cases s with
  | un => cases (show fp = [] from h); intro a m; cases m
  | fz d => obtain ⟨e, _⟩ := h; subst e; intro a m; cases m
  | ow v A => exact A.trk h.2
  | fr v d => obtain ⟨e, _⟩ := h; subst e; intro a m; cases m
theorem SlotR.nd {o : Option V} {fp : List Addr} {s : SD nf} (h : SlotR K nf H o fp s) : fp.Nodup := by
  cases s with
  | un => cases (show fp = [] from h); exact List.nodup_nil
  | fz d => obtain ⟨e, _⟩ := h; subst e; exact List.nodup_nil
  | ow v A => exact A.nd h.2
  | fr v d => obtain ⟨e, _⟩ := h; subst e; exact List.nodup_nil
theorem EnvL.trk {σ : List (Option V)} {env : List (SD nf)} {fp : List Addr} (h : EnvL K nf H σ env fp) : ∀ a ∈ fp, ∃ u, H a = some u ∧ ¬ Fzn nf u := by
  induction h with
  | nil => intro a m; cases m
  | cons s _ _ ih =>
    intro a m
    rcases List.mem_append.mp m with m | m
    · exact s.trk a m
    · exact ih a m
theorem EnvL.frame {σ : List (Option V)} {env : List (SD nf)} {fp : List Addr} (h : EnvL K nf H σ env fp) (k : ∀ a ∈ fp, H' a = H a) (st : Stp nf H H') : EnvL K nf H' σ env fp := by
  induction h with
  | nil => exact .nil
  | cons s _ d ih => exact .cons (s.frame (fun a m => k a (List.mem_append_left _ m)) st) (ih fun a m => k a (List.mem_append_right _ m)) d
theorem EnvL.length {σ : List (Option V)} {env : List (SD nf)} {fp : List Addr} (h : EnvL K nf H σ env fp) : σ.length = env.length := by
  induction h with
  | nil => rfl
  | cons _ _ _ ih => rw [List.length_cons, List.length_cons, ih]
/-- the owned objects are no frozen ones: all that is frozen stands behind a change -/
theorem Ch.stpL {fp fp' : List Addr} {σ : List (Option V)} {env : List (SD nf)} (c : Ch fp H fp' H') (h : EnvL K nf H σ env fp) : Stp nf H H' := fun a u e f => c.keep a u e fun m => by
  obtain ⟨u', e', nf'⟩ := h.trk a m
  rw [e] at e'; cases e'
  exact nf' f
/-- all stands, new things may have come -/
def Xt (H H' : Hp) : Prop := ∀ a u, H a = some u → H' a = some u
theorem Xt.refl : Xt H H := fun _ _ h => h
theorem Xt.trans (a : Xt H H1) (b : Xt H1 H2) : Xt H H2 := fun x u h => b x u (a x u h)
theorem Xt.stp (x : Xt H H') : Stp nf H H' := fun a u e _ => x a u e
theorem Xt.new {p : Addr} {o : HO} (h : H p = none) : Xt H (upd H p o) := fun a u e => by rw [upd_ne (ne_of_none e h)]; exact e
theorem Xt.ch {fp : List Addr} (x : Xt H H') : Ch fp H fp H' := ⟨fun a u h _ => x a u h, fun _ h => .inl h, fun a h => by
  cases q : H a with
  | none => rfl
  | some u => rw [x a u q] at h; cases h⟩
theorem EnvL.ext {σ : List (Option V)} {env : List (SD nf)} {fp : List Addr} (h : EnvL K nf H σ env fp) (x : Xt H H') : EnvL K nf H' σ env fp :=
  h.frame (fun a m => by obtain ⟨u, e, _⟩ := h.trk a m; rw [e, x a u e]) x.stp
/-- THE SLOT i: what it holds, and how it is replaced -/
theorem EnvL.at {σ : List (Option V)} {env : List (SD nf)} {fp : List Addr} (h : EnvL K nf H σ env fp) : ∀ {i : Nat} {s : SD nf}, env[i]? = some s →
    ∃ o fi, σ[i]? = some o ∧ SlotR K nf H o fi s ∧ (∀ a ∈ fi, a ∈ fp) ∧
      ∀ H' o' s' fi', SlotR K nf H' o' fi' s' → (∀ a u, H a = some u → a ∉ fi → H' a = some u) → (∀ a ∈ fi', a ∈ fi ∨ H a = none) → Stp nf H H' →
        ∃ fp', EnvL K nf H' (σ.set i o') (env.set i s') fp' ∧ ∀ a ∈ fp', a ∈ fp ∨ H a = none := by
  induction h with
  | nil => intro i s e; simp at e
  | @cons o σ s env fp fq hs he hd ih =>
    intro i s0 e
    cases i with
    | zero =>
      simp at e
      subst e
      refine ⟨o, fp, rfl, hs, fun a m => List.mem_append_left _ m, fun H' o' s' fi' hs' k sub st => ?_⟩
      have kq : ∀ a ∈ fq, H' a = H a := fun a m => by
        obtain ⟨u, eu, _⟩ := he.trk a m
        rw [eu]
        exact k a u eu fun z => hd a z m
      refine ⟨fi' ++ fq, .cons hs' (he.frame kq st) fun a m z => ?_, fun a m => ?_⟩
      · rcases sub a m with q | q
        · exact hd a q z
        · obtain ⟨u, eu, _⟩ := he.trk a z
          rw [q] at eu; cases eu
      · rcases List.mem_append.mp m with m | m
        · exact (sub a m).imp (List.mem_append_left _) id
        · exact .inl (List.mem_append_right _ m)
    | succ i =>
      obtain ⟨o1, fi, e1, s1, sub1, rep⟩ := ih (i := i) (s := s0) (by simpa using e)
      refine ⟨o1, fi, by simpa using e1, s1, fun a m => List.mem_append_right _ (sub1 a m), fun H' o' s' fi' hs' k sub st => ?_⟩
      obtain ⟨fp', he', sub'⟩ := rep H' o' s' fi' hs' k sub st
      have kp : ∀ a ∈ fp, H' a = H a := fun a m => by
        obtain ⟨u, eu, _⟩ := hs.trk a m
        rw [eu]
        exact k a u eu fun z => hd a m (sub1 a z)
      refine ⟨fp ++ fp', .cons (hs.frame kp st) he' fun a m z => ?_, fun a m => ?_⟩
      · rcases sub' a z with q | q
        · exact hd a m q
        · obtain ⟨u, eu, _⟩ := hs.trk a m
          rw [q] at eu; cases eu
      · rcases List.mem_append.mp m with m | m
        · exact .inl (List.mem_append_left _ m)
        · exact (sub' a m).imp (List.mem_append_right _) id
end
/-! ### the anchor: what is true of the owned addresses and the heap since the body began -/
class Anch where
  p : List Addr → Hp → Prop
  up : ∀ {fp H fp' H'}, p fp H → Ch fp H fp' H' → p fp' H'
def Anch.triv : Anch := ⟨fun _ _ => True, fun _ _ => trivial⟩
instance (priority := low) anchTriv : Anch := Anch.triv
/-- slots against the heap, under the anchor -/
def EnvR [Anch] (K : PySem.W.Frag) (nf : Addr → Nat) (H : Hp) (σ : List (Option V)) (env : List (SD nf)) (fp : List Addr) : Prop := EnvL K nf H σ env fp ∧ Anch.p fp H
section
variable [Anch] {K : PySem.W.Frag} {nf : Addr → Nat} {H H' H1 H2 : Hp} {σ : List (Option V)} {env : List (SD nf)} {fp fp' : List Addr}
theorem EnvR.l (R : EnvR K nf H σ env fp) : EnvL K nf H σ env fp := R.1
theorem EnvR.trk (R : EnvR K nf H σ env fp) : ∀ a ∈ fp, ∃ u, H a = some u ∧ ¬ Fzn nf u := R.1.trk
theorem EnvR.length (R : EnvR K nf H σ env fp) : σ.length = env.length := R.1.length
theorem Ch.stp {env : List (SD nf)} (c : Ch fp H fp' H') (R : EnvR K nf H σ env fp) : Stp nf H H' := c.stpL R.1
theorem EnvR.ext (R : EnvR K nf H σ env fp) (x : Xt H H') : EnvR K nf H' σ env fp := ⟨R.1.ext x, Anch.up R.2 x.ch⟩
theorem Ch.put {p : Addr} {o : HO} (c : Ch fp H fp' H') (hp : H p = none) : Ch fp H fp' (upd H' p o) := ⟨fun a u e n => by rw [upd_ne (ne_of_none e hp)]; exact c.keep a u e n, c.sub, fun a e => c.there a (by
  by_cases ha : a = p
  · subst ha; rw [upd_same] at e; cases e
  · rw [upd_ne ha] at e; exact e)⟩
theorem EnvR.re {σ' : List (Option V)} {env' : List (SD nf)} (R : EnvR K nf H σ env fp) (R' : EnvL K nf H' σ' env' fp') (c : Ch fp H fp' H') : EnvR K nf H' σ' env' fp' := ⟨R', Anch.up R.2 c⟩
theorem EnvR.rex {σ' : List (Option V)} {env' : List (SD nf)} (R : EnvR K nf H σ env fp) (R' : EnvL K nf H' σ' env' fp') (c : Ch fp H fp' H') : ∃ fp', EnvR K nf H' σ' env' fp' ∧ Ch fp H fp' H' := ⟨fp', R.re R' c, c⟩
/-- the owned ones stand; the anchor by a change from further back -/
theorem EnvR.frame {fp0 : List Addr} {H0 : Hp} (R : EnvR K nf H σ env fp) (k : ∀ a ∈ fp, H' a = H a) (st : Stp nf H H') (p0 : Anch.p fp0 H0) (c : Ch fp0 H0 fp H') : EnvR K nf H' σ env fp := ⟨R.1.frame k st, Anch.up p0 c⟩
theorem EnvR.at (R : EnvR K nf H σ env fp) : ∀ {i : Nat} {s : SD nf}, env[i]? = some s →
    ∃ o fi, σ[i]? = some o ∧ SlotR K nf H o fi s ∧ (∀ a ∈ fi, a ∈ fp) ∧
      ∀ H' o' s' fi', SlotR K nf H' o' fi' s' → (∀ a u, H a = some u → a ∉ fi → H' a = some u) → (∀ a ∈ fi', a ∈ fi ∨ H a = none) → Stp nf H H' →
        ∃ fp', EnvL K nf H' (σ.set i o') (env.set i s') fp' ∧ ∀ a ∈ fp', a ∈ fp ∨ H a = none := R.1.at
end
end DL

namespace DL
open PySem L2
abbrev EV (nf : Addr → Nat) := List (SD nf)
abbrev DT (nf : Addr → Nat) := EV nf → (D → EV nf → Prop) → Prop
abbrev DB (nf : Addr → Nat) := EV nf → (Bool → EV nf → Prop) → Prop
abbrev DAs (nf : Addr → Nat) := EV nf → (List D → EV nf → Prop) → Prop
structure EndsD (nf : Addr → Nat) where
  nx : EV nf → Prop
  rt : D → EV nf → Prop
  bk : EV nf → Prop := fun _ => False
  ct : EV nf → Prop := fun _ => False
  ro : V → OA nf → EV nf → Prop := fun _ _ _ => False
abbrev DTS (nf : Addr → Nat) := EndsD nf → EV nf → Prop

section
variable [Anch] (K : PySem.W.Frag) (nf : Addr → Nat)
def lift (td : DT nf) : TE := fun σ H Q => ∃ env fp Qd, EnvR K nf H σ env fp ∧ td env Qd ∧ ∀ v H' d env' fp', Rel K nf H' v d → EnvR K nf H' σ env' fp' → Ch fp H fp' H' → Qd d env' → Q v H'
def liftB (td : DB nf) : TT := fun σ H Q => ∃ env fp Qd, EnvR K nf H σ env fp ∧ td env Qd ∧ ∀ b H' env' fp', EnvR K nf H' σ env' fp' → Ch fp H fp' H' → Qd b env' → Q b H'
def liftA (td : DAs nf) : TA := fun σ H Q => ∃ env fp Qd, EnvR K nf H σ env fp ∧ td env Qd ∧ ∀ vs H' ds env' fp', Rels K nf H' vs ds → EnvR K nf H' σ env' fp' → Ch fp H fp' H' → Qd ds env' → Q vs H'
structure Br (H : Hp) (fp : List Addr) (De : EndsD nf) (E : Ends) : Prop where
  nx : ∀ σ' H' env' fp', EnvR K nf H' σ' env' fp' → Ch fp H fp' H' → De.nx env' → E.nx σ' H'
  rt : ∀ v d σ' H' env' fp', Rel K nf H' v d → EnvR K nf H' σ' env' fp' → Ch fp H fp' H' → De.rt d env' → E.rt v H'
  bk : ∀ σ' H' env' fp', EnvR K nf H' σ' env' fp' → Ch fp H fp' H' → De.bk env' → E.bk σ' H'
  ct : ∀ σ' H' env' fp', EnvR K nf H' σ' env' fp' → Ch fp H fp' H' → De.ct env' → E.ct σ' H'
  ro : ∀ v A σ' H' env' fp' fi, A.inv v fi H' → EnvR K nf H' σ' env' fp' → (∀ a ∈ fi, a ∉ fp') → Ch fp H (fi ++ fp') H' → De.ro v A env' → E.rt v H'
def liftS (td : DTS nf) : TS := fun E σ H => ∃ env fp De, EnvR K nf H σ env fp ∧ td De env ∧ Br K nf H fp De E
end

section
variable [Anch] {X : Cx} {nf : Addr → Nat} {K : PySem.W.Frag}
theorem pe_imp {e : Expr} {t t' : TE} (h : PE X e t) (i : ∀ σ H Q, t' σ H Q → t σ H Q) : PE X e t' := ⟨fun pins s σ H Q I q => h.run pins s σ H Q I (i σ H Q q)⟩
theorem pt_imp {e : Expr} {t t' : TT} (h : PT X e t) (i : ∀ σ H Q, t' σ H Q → t σ H Q) : PT X e t' := ⟨fun pins s σ H Q I q => h.run pins s σ H Q I (i σ H Q q)⟩
theorem pw_imp {e : Expr} {t t' : TT} (h : PW X e t) (i : ∀ σ H Q, t' σ H Q → t σ H Q) : PW X e t' := ⟨fun w pins s σ H Q I q => h.run w pins s σ H Q I (i σ H Q q)⟩
theorem pa_imp {es : List Expr} {t t' : TA} (h : PA X es t) (i : ∀ σ H Q, t' σ H Q → t σ H Q) : PA X es t' := ⟨fun p pins s σ H Q I q => h.run p pins s σ H Q I (i σ H Q q)⟩
theorem ps_imp {st : Stmt} {t t' : TS} (h : PS X st t) (i : ∀ E σ H, t' E σ H → t E σ H) : PS X st t' := ⟨fun pins s σ H E I q => h.run pins s σ H E I (i E σ H q)⟩
theorem pss_imp {st : List Stmt} {t t' : TS} (h : PSs X st t) (i : ∀ E σ H, t' E σ H → t E σ H) : PSs X st t' := ⟨fun pins s σ H E I q => h.run pins s σ H E I (i E σ H q)⟩

variable (X nf)
abbrev DE (e : Expr) (td : DT nf) : Prop := PE X e (lift X.K nf td)
abbrev DC (e : Expr) (td : DB nf) : Prop := PT X e (liftB X.K nf td)
abbrev DW (e : Expr) (td : DB nf) : Prop := PW X e (liftB X.K nf td)
abbrev DA (es : List Expr) (td : DAs nf) : Prop := PA X es (liftA X.K nf td)
abbrev DS (st : Stmt) (td : DTS nf) : Prop := PS X st (liftS X.K nf td)
abbrev DSs (st : List Stmt) (td : DTS nf) : Prop := PSs X st (liftS X.K nf td)
variable {X nf}

/-! ### use of a lifted reading -/
theorem lift_run {td : DT nf} {σ : St} {H : Hp} {Q : VK} {env : EV nf} {fp : List Addr} {Qd : D → EV nf → Prop} (R : EnvR K nf H σ env fp) (h : td env Qd)
    (k : ∀ v H' d env' fp', Rel K nf H' v d → EnvR K nf H' σ env' fp' → Ch fp H fp' H' → Qd d env' → Q v H') : lift K nf td σ H Q := ⟨env, fp, Qd, R, h, k⟩

/-! ### names and constants -/
def dVar (i : Nat) : DT nf := fun env Q => ∃ d, env[i]? = some (.fz d) ∧ Q d env
theorem de_var {i : Nat} {e : Expr} (h : PE X e (tVar i)) : DE X nf e (dVar i) := pe_imp h fun σ H Q ⟨env, fp, Qd, R, ⟨d, e, q⟩, k⟩ => by
  obtain ⟨o, fi, e1, ⟨_, v, ev, r⟩, _⟩ := R.at e
  subst ev
  exact ⟨v, e1, k v H d env fp r R Ch.refl q⟩
theorem dv (i : Nat) {x : Str} {pos : Pos} (hN : X.N[i]? = some x := by rfl) (hv : Vis X.env.scope x := by first | exact Or.inl rfl | exact Or.inr (Or.inl rfl) | exact Or.inr (Or.inr rfl)) (hd : (x == ("__debug__" : Str)) = false := by decide)
    (hcd : (x == ("__classdict__" : Str)) = false := by decide) : DE X nf (.Name x pos) (dVar i) := de_var (pv i hN hv hd hcd)
def dC (d : D) : DT nf := fun env Q => Q d env
theorem de_c {e : Expr} {v : V} {d : D} (h : PE X e (tC v)) (r : ∀ H, Rel X.K nf H v d) : DE X nf e (dC d) := pe_imp h fun σ H Q ⟨env, fp, Qd, R, q, k⟩ => k v H d env fp (r H) R Ch.refl q
theorem de_int {i j pos} : DE X nf (.Constant (.int i) j pos) (dC (.int i)) := de_c pe_int fun _ => .int i
theorem de_bl {b j pos} : DE X nf (.Constant (.bool b) j pos) (dC (.bl b)) := de_c pe_bl fun _ => .bl b
theorem de_non {j pos} : DE X nf (.Constant .none j pos) (dC .non) := de_c pe_non fun _ => .non
theorem de_str {x j pos} : DE X nf (.Constant (.str x) j pos) (dC (.str x)) := de_c pe_str fun _ => .str x

/-! ### operations on values -/
/-- r on values that stand for x, y gives one that stands for z; new things may come -/
def OpD (K : PySem.W.Frag) (nf : Addr → Nat) (r : R2) (f : D → D → D → Prop) : Prop := ∀ H v w x y z, Rel K nf H v x → Rel K nf H w y → f x y z → ∀ Q : VK, (∀ u H', Rel K nf H' u z → Xt H H' → Q u H') → r v w H Q
def dOp (f : D → D → D → Prop) (da db : DT nf) : DT nf := fun env Q => da env fun x env1 => db env1 fun y env2 => ∃ z, f x y z ∧ Q z env2
theorem lift_op {r : R2} {f : D → D → D → Prop} {da db : DT nf} (o : OpD K nf r f) (σ : St) (H : Hp) (Q : VK) (h : lift K nf (dOp f da db) σ H Q) : tOp r (lift K nf da) (lift K nf db) σ H Q := by
  obtain ⟨env, fp, Qd, R, h, k⟩ := h
  refine lift_run R h fun v H1 x env1 fp1 r1 R1 c1 h1 => ?_
  refine lift_run R1 h1 fun w H2 y env2 fp2 r2 R2 c2 ⟨z, hz, q⟩ => ?_
  refine o H2 v w x y z (r1.mono (c2.stp R1)) r2 hz Q fun u H3 r3 x3 => ?_
  exact k u H3 z env2 fp2 r3 (R2.ext x3) ((c1.trans c2).trans x3.ch) q
theorem de_op {a b : Expr} {op : Operator} {pos : Pos} {r : R2} {f : D → D → D → Prop} {da db : DT nf} (ho : OpR X (binaryOp op) r) (o : OpD X.K nf r f) (ha : DE X nf a da) (hb : DE X nf b db) : DE X nf (.BinOp a op b pos) (dOp f da db) :=
  pe_imp (pe_op ho ha hb) (lift_op o)
theorem de_cmp {a b : Expr} {op : CmpOp} {pos : Pos} {r : R2} {f : D → D → D → Prop} {da db : DT nf} (ho : OpR X (compareOp op) r) (o : OpD X.K nf r f) (ha : DE X nf a da) (hb : DE X nf b db) (hm : behindInMarks op b = false) : DE X nf (.Compare a [op] [b] pos) (dOp f da db) :=
  pe_imp (pe_cmpR ho ha hb hm) (lift_op o)
theorem de_ix {a b : Expr} {pos : Pos} {r : R2} {f : D → D → D → Prop} {da db : DT nf} (ho : IxR X r) (o : OpD X.K nf r f) (ha : DE X nf a da) (hb : DE X nf b db) (hs : PlainIx b) : DE X nf (.Subscript a b pos) (dOp f da db) :=
  pe_imp (pe_ix ho ha hb hs) (lift_op o)

/-! ### tests -/
def dBv (da : DT nf) : DB nf := fun env Q => da env fun x env1 => ∃ b, x = .bl b ∧ Q b env1
theorem rel_bl {H : Hp} {v : V} {b : Bool} (h : Rel K nf H v (.bl b)) : v = .bl b := by cases h; rfl
theorem rel_int {H : Hp} {v : V} {b : Int} (h : Rel K nf H v (.int b)) : v = .int b := by cases h; rfl
theorem rel_str {H : Hp} {v : V} {b : Str} (h : Rel K nf H v (.str b)) : v = .str b := by cases h; rfl
theorem rel_non {H : Hp} {v : V} (h : Rel K nf H v .non) : v = .non := by cases h; rfl
theorem lift_B {da : DT nf} (σ : St) (H : Hp) (Q : Bool → Hp → Prop) (h : liftB K nf (dBv da) σ H Q) : tB (lift K nf da) σ H Q := by
  obtain ⟨env, fp, Qd, R, h, k⟩ := h
  refine lift_run R h fun v H1 x env1 fp1 r1 R1 c1 ⟨b, e, q⟩ => ?_
  subst e
  exact ⟨b, rel_bl r1, k b H1 env1 fp1 R1 c1 q⟩
/-- an expression of a bool, as a test (not a comparison, and, or, not) -/
theorem dc_val {e : Expr} {da : DT nf} (h : DE X nf e da) (he : ∀ whole, isTrue e X.env whole = (do let v ← whole; standAt e.pos; holding [v] (truthy v)) := by intro _; rfl) : DC X nf e (dBv da) := pt_imp (pt_val h he) lift_B
def dAnd (a b : DB nf) : DB nf := fun env Q => a env fun c env1 => if c = true then b env1 Q else Q false env1
def dOr (a b : DB nf) : DB nf := fun env Q => a env fun c env1 => if c = true then Q true env1 else b env1 Q
def dNot (a : DB nf) : DB nf := fun env Q => a env fun c env1 => Q (!c) env1
theorem lift_and {a b : DB nf} (σ : St) (H : Hp) (Q : Bool → Hp → Prop) (h : liftB K nf (dAnd a b) σ H Q) : tAnd (liftB K nf a) (liftB K nf b) σ H Q := by
  obtain ⟨env, fp, Qd, R, h, k⟩ := h
  refine ⟨env, fp, _, R, h, fun c H1 env1 fp1 R1 c1 q => ?_⟩
  cases c with
  | true => exact ⟨env1, fp1, Qd, R1, q, fun b H2 env2 fp2 R2 c2 q2 => k b H2 env2 fp2 R2 (c1.trans c2) q2⟩
  | false => exact k false H1 env1 fp1 R1 c1 q
theorem lift_or {a b : DB nf} (σ : St) (H : Hp) (Q : Bool → Hp → Prop) (h : liftB K nf (dOr a b) σ H Q) : tOr (liftB K nf a) (liftB K nf b) σ H Q := by
  obtain ⟨env, fp, Qd, R, h, k⟩ := h
  refine ⟨env, fp, _, R, h, fun c H1 env1 fp1 R1 c1 q => ?_⟩
  cases c with
  | false => exact ⟨env1, fp1, Qd, R1, q, fun b H2 env2 fp2 R2 c2 q2 => k b H2 env2 fp2 R2 (c1.trans c2) q2⟩
  | true => exact k true H1 env1 fp1 R1 c1 q
theorem lift_not {a : DB nf} (σ : St) (H : Hp) (Q : Bool → Hp → Prop) (h : liftB K nf (dNot a) σ H Q) : tNot (liftB K nf a) σ H Q := by
  obtain ⟨env, fp, Qd, R, h, k⟩ := h
  exact ⟨env, fp, _, R, h, fun c H1 env1 fp1 R1 c1 q => k (!c) H1 env1 fp1 R1 c1 q⟩
section
variable {a b : Expr} {rest : List Expr} {pos : Pos} {ta tb : DB nf}
theorem dw_and1 (h : DC X nf a ta) : DW X nf (.BoolOp .And [a] pos) ta := pw_and1 h
theorem dw_or1 (h : DC X nf a ta) : DW X nf (.BoolOp .Or [a] pos) ta := pw_or1 h
theorem dw_and (ha : DC X nf a ta) (hb : DW X nf (.BoolOp .And (b :: rest) pos) tb) : DW X nf (.BoolOp .And (a :: b :: rest) pos) (dAnd ta tb) := pw_imp (pw_and ha hb) lift_and
theorem dw_or (ha : DC X nf a ta) (hb : DW X nf (.BoolOp .Or (b :: rest) pos) tb) : DW X nf (.BoolOp .Or (a :: b :: rest) pos) (dOr ta tb) := pw_imp (pw_or ha hb) lift_or
theorem dc_not (ha : DC X nf a ta) : DC X nf (.UnaryOp .Not a pos) (dNot ta) := pt_imp (pt_not ha) lift_not
theorem DW.dc (h : DW X nf a ta) : DC X nf a ta := h.pt
end
/-- a comparison as a test -/
theorem dc_cmp {a b : Expr} {op : CmpOp} {pos : Pos} {r : R2} {f : D → D → D → Prop} {da db : DT nf} (ho : OpR X (compareOp op) r) (o : OpD X.K nf r f) (ha : DE X nf a da) (hb : DE X nf b db) (hm : behindInMarks op b = false) : DC X nf (.Compare a [op] [b] pos) (dBv (dOp f da db)) :=
  pt_imp (pt_cmpR ho ha hb hm) fun σ H Q h => by
    obtain ⟨env, fp, Qd, R, h, k⟩ := h
    refine lift_op o σ H _ (lift_run R h fun v H1 x env1 fp1 r1 R1 c1 ⟨b, e, q⟩ => ?_)
    subst e
    exact ⟨b, rel_bl r1, k b H1 env1 fp1 R1 c1 q⟩
/-! and, or, not as values of bools -/
def dAndV (a b : DT nf) : DT nf := fun env Q => a env fun x env1 => ∃ c, x = .bl c ∧ if c = true then b env1 Q else Q (.bl false) env1
def dOrV (a b : DT nf) : DT nf := fun env Q => a env fun x env1 => ∃ c, x = .bl c ∧ if c = true then Q (.bl true) env1 else b env1 Q
def dNotV (a : DT nf) : DT nf := fun env Q => a env fun x env1 => ∃ c, x = .bl c ∧ Q (.bl (!c)) env1
section
variable {a b : Expr} {rest : List Expr} {pos : Pos} {da db : DT nf}
theorem de_one {op} (h : DE X nf a da) : DE X nf (.BoolOp op [a] pos) da := pe_one h
theorem de_and (ha : DE X nf a da) (hb : DE X nf (.BoolOp .And (b :: rest) pos) db) : DE X nf (.BoolOp .And (a :: b :: rest) pos) (dAndV da db) := pe_imp (pe_and ha hb) fun σ H Q h => by
  obtain ⟨env, fp, Qd, R, h, k⟩ := h
  refine lift_run R h fun v H1 x env1 fp1 r1 R1 c1 ⟨c, e, q⟩ => ?_
  subst e
  refine ⟨c, rel_bl r1, ?_⟩
  cases c with
  | true => exact ⟨env1, fp1, Qd, R1, q, fun v H2 d env2 fp2 r2 R2 c2 q2 => k v H2 d env2 fp2 r2 R2 (c1.trans c2) q2⟩
  | false => exact k _ H1 _ env1 fp1 (.bl false) R1 c1 q
theorem de_or (ha : DE X nf a da) (hb : DE X nf (.BoolOp .Or (b :: rest) pos) db) : DE X nf (.BoolOp .Or (a :: b :: rest) pos) (dOrV da db) := pe_imp (pe_or ha hb) fun σ H Q h => by
  obtain ⟨env, fp, Qd, R, h, k⟩ := h
  refine lift_run R h fun v H1 x env1 fp1 r1 R1 c1 ⟨c, e, q⟩ => ?_
  subst e
  refine ⟨c, rel_bl r1, ?_⟩
  cases c with
  | false => exact ⟨env1, fp1, Qd, R1, q, fun v H2 d env2 fp2 r2 R2 c2 q2 => k v H2 d env2 fp2 r2 R2 (c1.trans c2) q2⟩
  | true => exact k _ H1 _ env1 fp1 (.bl true) R1 c1 q
theorem de_not (ha : DE X nf a da) : DE X nf (.UnaryOp .Not a pos) (dNotV da) := pe_imp (pe_not ha) fun σ H Q h => by
  obtain ⟨env, fp, Qd, R, h, k⟩ := h
  refine lift_run R h fun v H1 x env1 fp1 r1 R1 c1 ⟨c, e, q⟩ => ?_
  subst e
  exact ⟨c, rel_bl r1, k _ H1 _ env1 fp1 (.bl _) R1 c1 q⟩
def dIf (t : DB nf) (a b : DT nf) : DT nf := fun env Q => t env fun c env1 => if c = true then a env1 Q else b env1 Q
theorem de_if {c : Expr} {tc : DB nf} (hc : DC X nf c tc) (ha : DE X nf a da) (hb : DE X nf b db) : DE X nf (.IfExp c a b pos) (dIf tc da db) := pe_imp (pe_ifExp hc ha hb) fun σ H Q h => by
  obtain ⟨env, fp, Qd, R, h, k⟩ := h
  refine ⟨env, fp, _, R, h, fun c H1 env1 fp1 R1 c1 q => ?_⟩
  cases c with
  | true => exact ⟨env1, fp1, Qd, R1, q, fun v H2 d env2 fp2 r2 R2 c2 q2 => k v H2 d env2 fp2 r2 R2 (c1.trans c2) q2⟩
  | false => exact ⟨env1, fp1, Qd, R1, q, fun v H2 d env2 fp2 r2 R2 c2 q2 => k v H2 d env2 fp2 r2 R2 (c1.trans c2) q2⟩
end

/-! ### argument lists -/
def aNil : DAs nf := fun env Q => Q [] env
def aCons (a : DT nf) (r : DAs nf) : DAs nf := fun env Q => a env fun x env1 => r env1 fun xs env2 => Q (x :: xs) env2
theorem da_nil : DA X nf [] aNil := pa_imp pa_nil fun σ H Q ⟨env, fp, Qd, R, q, k⟩ => k [] H [] env fp .nil R Ch.refl q
theorem da_cons {e : Expr} {es : List Expr} {a : DT nf} {r : DAs nf} (ha : DE X nf e a) (hr : DA X nf es r) (hs : starEach (e :: es) X.env = (false, eval e X.env) :: starEach es X.env := by rfl) : DA X nf (e :: es) (aCons a r) :=
  pa_imp (pa_cons ha hr hs) fun σ H Q h => by
    obtain ⟨env, fp, Qd, R, h, k⟩ := h
    refine lift_run R h fun v H1 x env1 fp1 r1 R1 c1 q1 => ?_
    exact ⟨env1, fp1, _, R1, q1, fun vs H2 ds env2 fp2 r2 R2 c2 q2 => k (v :: vs) H2 (x :: ds) env2 fp2 (.cons (r1.mono (c2.stp R1)) r2) R2 (c1.trans c2) q2⟩

/-! ### freezing -/
/-- behind e the thing that it gives is frozen -/
def tFz (t : TE) : TE := fun σ H Q => t σ H fun v H' => ∃ p u, v = .ref p ∧ H' p = some u ∧ Mut (some u) ∧ ∀ o, Q v (upd H' p (.frz o u))
theorem pe_fz {e : Expr} {t : TE} (h : PE X e t) : PE X e (tFz t) := by
  refine ⟨fun pins s σ H Q I hw => ?_⟩
  refine thn (h.run pins s σ H _ I hw) fun v s1 ⟨x, H1, I1, r, p, u, ex, hp, mu, q⟩ => ?_
  obtain ⟨o, I2⟩ := I1.lock hp mu
  exact ⟨x, _, I2, r, q o⟩
/-- what freezing a new thing does -/
theorem xt_fz {H H' : Hp} {p : Addr} {u : HO} (x : Xt H H') (hp : H p = none) {o : Obj} : Xt H (upd H' p (.frz o u)) := fun a w e => by rw [upd_ne (ne_of_none e hp)]; exact x a w e

/-! ### displays -/
def dTup (r : DAs nf) : DT nf := fun env Q => r env fun xs env1 => xs.length ≤ 1000000 ∧ Q (.tup xs) env1
theorem sz_ok {n : Nat} (h : n ≤ 1000000) : n ≤ sizeLine := Nat.le_trans h (by decide)
theorem de_tup {es : List Expr} {r : DAs nf} {x1} {pos : Pos} (h : DA X nf es r) : DE X nf (.Tuple es x1 pos) (dTup r) := pe_imp (pe_tup h) fun σ H Q h => by
  obtain ⟨env, fp, Qd, R, h, k⟩ := h
  refine ⟨env, fp, _, R, h, fun vs H1 ds env1 fp1 r1 R1 c1 ⟨hl, q⟩ => ⟨by rw [r1.length]; exact sz_ok hl, fun p hp => ?_⟩⟩
  have x : Xt H1 (upd H1 p (.tup vs)) := Xt.new hp
  exact k _ _ _ env1 fp1 (.tup (SqT.of upd_same) (r1.mono x.stp)) (R1.ext x) (c1.trans x.ch) q
def dLst (r : DAs nf) : DT nf := fun env Q => r env fun xs env1 => xs.length ≤ 1000000 ∧ Q (.lst xs) env1
/-- a list display, frozen at once -/
theorem de_lst {es : List Expr} {r : DAs nf} {pos : Pos} (h : DA X nf es r) : DE X nf (.List es pos) (dLst r) := pe_imp (pe_fz (pe_lst h)) fun σ H Q h => by
  obtain ⟨env, fp, Qd, R, h, k⟩ := h
  refine ⟨env, fp, _, R, h, fun vs H1 ds env1 fp1 r1 R1 c1 ⟨hl, q⟩ => ⟨by rw [r1.length]; exact sz_ok hl, fun p hp => ⟨p, _, rfl, upd_same, trivial, fun o => ?_⟩⟩⟩
  have x : Xt H1 (upd (upd H1 p (.lst vs)) p (.frz o (.lst vs))) := xt_fz (Xt.new hp) hp
  exact k _ _ _ env1 fp1 (.lst ⟨o, upd_same⟩ (r1.mono x.stp)) (R1.ext x) (c1.trans x.ch) q
end
end DL

namespace DL
open PySem L2
section
variable [Anch] {X : Cx} {nf : Addr → Nat} {K : PySem.W.Frag}
theorem Br.up {H H1 : Hp} {fp fp1 : List Addr} {De : EndsD nf} {E : Ends} (b : Br K nf H fp De E) (c : Ch fp H fp1 H1) : Br K nf H1 fp1 De E :=
  ⟨fun σ' H' env' fp' r c' q => b.nx σ' H' env' fp' r (c.trans c') q, fun v d σ' H' env' fp' r e c' q => b.rt v d σ' H' env' fp' r e (c.trans c') q,
   fun σ' H' env' fp' r c' q => b.bk σ' H' env' fp' r (c.trans c') q, fun σ' H' env' fp' r c' q => b.ct σ' H' env' fp' r (c.trans c') q,
   fun v A σ' H' env' fp' fi i r n c' q => b.ro v A σ' H' env' fp' fi i r n (c.trans c') q⟩

/-! ### blocks -/
def sNext : DTS nf := fun De env => De.nx env
def sSeq (a b : DTS nf) : DTS nf := fun De env => a { De with nx := b De } env
theorem ds_nil : DSs X nf [] sNext := pss_imp pss_nil fun E σ H ⟨env, fp, De, R, q, b⟩ => b.nx σ H env fp R Ch.refl q
theorem ds_cons {st : Stmt} {rest : List Stmt} {a b : DTS nf} (h1 : DS X nf st a) (h2 : DSs X nf rest b) : DSs X nf (st :: rest) (sSeq a b) := pss_imp (pss_cons h1 h2) fun E σ H ⟨env, fp, De, R, q, br⟩ =>
  ⟨env, fp, { De with nx := b De }, R, q, ⟨fun σ' H' env' fp' R' c q' => ⟨env', fp', De, R', q', br.up c⟩, br.rt, br.bk, br.ct, br.ro⟩⟩
theorem ds_one {st : Stmt} {a : DTS nf} (h1 : DS X nf st a) : DSs X nf [st] a := pss_one h1
def sBrk : DTS nf := fun De env => De.bk env
def sCnt : DTS nf := fun De env => De.ct env
theorem ds_pass {pos} : DS X nf (.Pass pos) sNext := ps_imp ps_pass fun E σ H ⟨env, fp, De, R, q, b⟩ => b.nx σ H env fp R Ch.refl q
theorem ds_brk {pos} : DS X nf (.Break pos) sBrk := ps_imp ps_break fun E σ H ⟨env, fp, De, R, q, b⟩ => b.bk σ H env fp R Ch.refl q
theorem ds_cnt {pos} : DS X nf (.Continue pos) sCnt := ps_imp ps_continue fun E σ H ⟨env, fp, De, R, q, b⟩ => b.ct σ H env fp R Ch.refl q
def sNever : DTS nf := fun _ _ => False
theorem ds_never {st : Stmt} : DS X nf st sNever := ps_imp ps_never fun E σ H ⟨env, fp, De, R, q, b⟩ => q.elim
theorem dss_never {st : List Stmt} : DSs X nf st sNever := pss_imp pss_never fun E σ H ⟨env, fp, De, R, q, b⟩ => q.elim
def sIf (c : DB nf) (a b : DTS nf) : DTS nf := fun De env => c env fun k env1 => if k = true then a De env1 else b De env1
theorem ds_if {c : Expr} {p q : List Stmt} {pos : Pos} {tc : DB nf} {a b : DTS nf} (hc : DC X nf c tc) (ha : DSs X nf p a) (hb : DSs X nf q b) : DS X nf (.If c p q pos) (sIf tc a b) := ps_imp (ps_if hc ha hb) fun E σ H ⟨env, fp, De, R, q, br⟩ =>
  ⟨env, fp, _, R, q, fun k H1 env1 fp1 R1 c1 q1 => by
    cases k with
    | true => exact ⟨env1, fp1, De, R1, q1, br.up c1⟩
    | false => exact ⟨env1, fp1, De, R1, q1, br.up c1⟩⟩
def sRet (a : DT nf) : DTS nf := fun De env => a env De.rt
theorem ds_ret {e : Expr} {a : DT nf} {pos : Pos} (h : DE X nf e a) : DS X nf (.Return (some e) pos) (sRet a) := ps_imp (ps_ret h) fun E σ H ⟨env, fp, De, R, q, br⟩ =>
  ⟨env, fp, _, R, q, fun v H1 d env1 fp1 r1 R1 c1 q1 => br.rt v d σ H1 env1 fp1 r1 R1 c1 q1⟩
def sRetN : DTS nf := fun De env => De.rt .non env
theorem ds_retN {pos : Pos} : DS X nf (.Return none pos) sRetN := ps_imp ps_retN fun E σ H ⟨env, fp, De, R, q, br⟩ => br.rt .non .non σ H env fp .non R Ch.refl q
def sDrop (a : DT nf) : DTS nf := fun De env => a env fun _ env1 => De.nx env1
theorem ds_expr {e : Expr} {a : DT nf} {pos : Pos} (h : DE X nf e a) (hs : swapsWith e none pos.line X.env = pure false := by rfl) : DS X nf (.Expr e pos) (sDrop a) := ps_imp (ps_expr h hs) fun E σ H ⟨env, fp, De, R, q, br⟩ =>
  ⟨env, fp, _, R, q, fun v H1 d env1 fp1 r1 R1 c1 q1 => br.nx σ H1 env1 fp1 R1 c1 q1⟩

/-! ### a name is stored -/
theorem EnvR.setFz {H : Hp} {σ : St} {env : EV nf} {fp : List Addr} (R : EnvR K nf H σ env fp) {i : Nat} {v : V} {d : D} (hi : i < env.length) (r : Rel K nf H v d) :
    ∃ fp', EnvR K nf H (σ.set i (some v)) (env.set i (.fz d)) fp' ∧ Ch fp H fp' H := by
  obtain ⟨o, fi, _, _, _, rep⟩ := R.at (i := i) (s := env[i]) (by simp [hi])
  obtain ⟨fp', R', sub⟩ := rep H (some v) (.fz d) [] ⟨rfl, v, rfl, r⟩ (fun a u e _ => e) (fun a m => by cases m) Stp.refl
  exact R.rex R' ⟨fun a u e _ => e, sub, fun a e => e⟩
/-- x = e -/
def sSet (i : Nat) (a : DT nf) : DTS nf := fun De env => a env fun d env1 => i < env1.length ∧ De.nx (env1.set i (.fz d))
theorem ds_set {i : Nat} {x : Str} {e : Expr} {a : DT nf} {pos pos' : Pos} (hN : X.N.Nodup) (hi : X.N[i]? = some x) (hx : Loc X.env.scope x) (h : DE X nf e a) (hs : swapsWith e (some (.Name x pos')) pos.line X.env = pure false := by rfl)
    (hf : X.fn x = true ∨ X.env.scope.names.lookup x = some .local := by first | exact .inl rfl | exact .inr rfl | assumption) : DS X nf (.Assign [.Name x pos'] e pos) (sSet i a) :=
  ps_imp (ps_set hN hi hx h hs hf) fun E σ H ⟨env, fp, De, R, q, br⟩ => ⟨env, fp, _, R, q, fun v H1 d env1 fp1 r1 R1 c1 ⟨hl, q1⟩ => by
    obtain ⟨fp2, R2, c2⟩ := R1.setFz hl r1
    exact br.nx _ H1 _ fp2 R2 (c1.trans c2) q1⟩
/-- a target by what it does with a value -/
abbrev DG (nf : Addr → Nat) := D → EV nf → (EV nf → Prop) → Prop
def liftG (K : PySem.W.Frag) (nf : Addr → Nat) (js : List Nat) (g : DG nf) : TG := fun v σ H Q => ∃ d env fp Qd, Rel K nf H v d ∧ EnvR K nf H σ env fp ∧ g d env Qd ∧ ∀ σ' env' fp', wipe σ' js = wipe σ js → EnvR K nf H σ' env' fp' → Ch fp H fp' H → Qd env' → Q σ' H
theorem wipe_set1 (σ : St) (i : Nat) (v : Option V) : wipe (σ.set i v) [i] = wipe σ [i] := by
  show (σ.set i v).set i none = σ.set i none
  rw [List.set_set]
theorem wipe_set_comm (σ : St) (i j : Nat) (a : Option V) : (σ.set i none).set j none = (σ.set j none).set i none := by
  by_cases h : i = j
  · subst h; rfl
  · exact List.set_comm _ _ h
theorem wipe_app (σ : St) : ∀ (js ks : List Nat), wipe σ (js ++ ks) = wipe (wipe σ ks) js
  | [], _ => rfl
  | j :: js, ks => by show (wipe σ (js ++ ks)).set j none = (wipe (wipe σ ks) js).set j none; rw [wipe_app σ js ks]
theorem wipe_out (σ : St) (i : Nat) : ∀ (js : List Nat), wipe (σ.set i none) js = (wipe σ js).set i none
  | [] => rfl
  | j :: js => by
    show (wipe (σ.set i none) js).set j none = ((wipe σ js).set j none).set i none
    rw [wipe_out σ i js]
    exact wipe_set_comm _ _ _ none
theorem wipe_comm (σ : St) : ∀ (js ks : List Nat), wipe (wipe σ ks) js = wipe (wipe σ js) ks
  | [], _ => rfl
  | j :: js, ks => by
    show (wipe (wipe σ ks) js).set j none = wipe ((wipe σ js).set j none) ks
    rw [wipe_out, wipe_comm σ js ks]
theorem pg_imp {e : Expr} {t t' : TG} (h : PG X e t) (i : ∀ v σ H Q, t' v σ H Q → t v σ H Q) : PG X e t' := ⟨fun pins s σ H v u Q I r q => h.run pins s σ H v u Q I r (i v σ H Q q)⟩
variable (X nf) in
abbrev DGo (e : Expr) (js : List Nat) (g : DG nf) : Prop := PG X e (liftG X.K nf js g)
def gN (i : Nat) : DG nf := fun d env Q => i < env.length ∧ Q (env.set i (.fz d))
theorem dg_name {i : Nat} {x : Str} {pos : Pos} (hN : X.N.Nodup) (hi : X.N[i]? = some x) (hx : Loc X.env.scope x) (hf : X.fn x = true ∨ X.env.scope.names.lookup x = some .local := by first | exact .inl rfl | exact .inr rfl | assumption) : DGo X nf (.Name x pos) [i] (gN i) :=
  pg_imp (pg_name hN hi hx hf) fun v σ H Q ⟨d, env, fp, Qd, r, R, ⟨hl, q⟩, k⟩ => by
    obtain ⟨fp2, R2, c2⟩ := R.setFz hl r
    exact k _ _ fp2 (wipe_set1 σ i _) R2 c2 q
abbrev DGs (nf : Addr → Nat) := List D → EV nf → (EV nf → Prop) → Prop
def liftGs (K : PySem.W.Frag) (nf : Addr → Nat) (js : List Nat) (g : DGs nf) : TGs := fun vs σ H Q => ∃ ds env fp Qd, Rels K nf H vs ds ∧ EnvR K nf H σ env fp ∧ g ds env Qd ∧ ∀ σ' env' fp', wipe σ' js = wipe σ js → EnvR K nf H σ' env' fp' → Ch fp H fp' H → Qd env' → Q σ' H
theorem pgs_imp {es : List Expr} {t t' : TGs} (h : PGs X es t) (i : ∀ v σ H Q, t' v σ H Q → t v σ H Q) : PGs X es t' := ⟨fun pins s σ H v u Q I r q => h.run pins s σ H v u Q I r (i v σ H Q q)⟩
variable (X nf) in
abbrev DGos (es : List Expr) (js : List Nat) (g : DGs nf) : Prop := PGs X es (liftGs X.K nf js g)
def gsNil : DGs nf := fun ds env Q => ds = [] ∧ Q env
def gsCons (g : DG nf) (r : DGs nf) : DGs nf := fun ds env Q => ∃ d rs, ds = d :: rs ∧ g d env fun env1 => r rs env1 Q
theorem dgs_nil : DGos X nf [] [] gsNil := pgs_imp pgs_nil fun vs σ H Q ⟨ds, env, fp, Qd, r, R, ⟨e, q⟩, k⟩ => by
  subst e
  cases r
  exact ⟨rfl, k _ _ fp rfl R Ch.refl q⟩
theorem dgs_cons {e : Expr} {es : List Expr} {js ks : List Nat} {g : DG nf} {r : DGs nf} (h1 : DGo X nf e js g) (h2 : DGos X nf es ks r) (hs : (assignEach (e :: es) X.env).map (·.2) = assign e X.env :: (assignEach es X.env).map (·.2) := by rfl) : DGos X nf (e :: es) (js ++ ks) (gsCons g r) :=
  pgs_imp (pgs_cons h1 h2 hs) fun vs σ H Q ⟨ds, env, fp, Qd, rr, R, ⟨d, rs, e, q⟩, k⟩ => by
    subst e
    cases rr with
    | cons r1 r2 =>
      refine ⟨_, _, rfl, d, env, fp, _, r1, R, q, fun σ1 env1 fp1 w1 R1 c1 q1 => ?_⟩
      exact ⟨rs, env1, fp1, Qd, r2, R1, q1, fun σ2 env2 fp2 w2 R2 c2 q2 => k σ2 env2 fp2 (by rw [wipe_app, wipe_app, w2, wipe_comm, w1, wipe_comm]) R2 (c1.trans c2) q2⟩
def gT (n : Nat) (g : DGs nf) : DG nf := fun d env Q => ∃ ds, d = .tup ds ∧ ds.length = n ∧ g ds env Q
theorem dg_tup {es : List Expr} {k : Nat} {js : List Nat} {g : DGs nf} {n : Nat} {pos : Pos} (hc : X.calm = true) (h : DGos X nf es js g) (hn : (assignEach es X.env).length = n := by rfl) (hst : (assignEach es X.env).findIdx? (·.1) = none := by rfl) : DGo X nf (.Tuple es k pos) js (gT n g) :=
  pg_imp (pg_tup hc h hn hst) fun v σ H Q ⟨d, env, fp, Qd, r, R, ⟨ds, e, hl, q⟩, k⟩ => by
    subst e
    cases r with
    | tup hs rr => exact ⟨_, _, rfl, hs, by rw [rr.length]; exact hl, ds, env, fp, Qd, rr, R, q, k⟩
def sAsg (a : DT nf) (g : DG nf) : DTS nf := fun De env => a env fun d env1 => g d env1 De.nx
theorem ds_asg {tg e : Expr} {a : DT nf} {js : List Nat} {g : DG nf} {pos : Pos} (he : DE X nf e a) (hg : DGo X nf tg js g) (hs : swapsWithSole [tg] e pos.line X.env = pure false := by rfl) (hw : swappedStores [tg] e X.env = pure none := by rfl)
    (h1 : (assignEach [tg] X.env).map (·.2) = [assign tg X.env] := by rfl) : DS X nf (.Assign [tg] e pos) (sAsg a g) := ps_imp (ps_asg he hg hs hw h1) fun E σ H ⟨env, fp, De, R, q, br⟩ =>
  ⟨env, fp, _, R, q, fun v H1 d env1 fp1 r1 R1 c1 q1 => ⟨d, env1, fp1, _, r1, R1, q1, fun σ2 env2 fp2 _ R2 c2 q2 => br.nx σ2 H1 env2 fp2 R2 (c1.trans c2) q2⟩⟩

/-! ### owned lists -/
/-- a list of one's own that stands for xs -/
def lstA (K : PySem.W.Frag) (nf : Addr → Nat) (xs : List D) : OA nf where
  inv v fp H := ∃ p vs, v = .ref p ∧ fp = [p] ∧ H p = some (.lst vs) ∧ Rels K nf H vs xs
  frame := by
    rintro v fp H H' ⟨p, vs, e1, e2, hp, r⟩ k st
    subst e2
    exact ⟨p, vs, e1, rfl, by rw [k p (List.mem_singleton.mpr rfl)]; exact hp, r.mono st⟩
  trk := by
    rintro v fp H ⟨p, vs, e1, e2, hp, r⟩ a m
    subst e2
    rw [List.mem_singleton.mp m]
    exact ⟨_, hp, fun z => z⟩
  nd := by
    rintro v fp H ⟨p, vs, e1, e2, hp, r⟩
    subst e2
    simp
/-- x = [..], kept to be written -/
def sSetL (K : PySem.W.Frag) (i : Nat) (r : DAs nf) : DTS nf := fun De env => r env fun xs env1 => xs.length ≤ 1000000 ∧ i < env1.length ∧ ∀ p, De.nx (env1.set i (.ow (.ref p) (lstA K nf xs)))
theorem EnvR.setNew {H H' : Hp} {σ : St} {env : EV nf} {fp : List Addr} (R : EnvR K nf H σ env fp) {i : Nat} {v : V} {A : OA nf} {fi : List Addr} (hi : i < env.length) (x : Xt H H') (hA : A.inv v fi H') (hn : ∀ a ∈ fi, H a = none) :
    ∃ fp', EnvR K nf H' (σ.set i (some v)) (env.set i (.ow v A)) fp' ∧ Ch fp H fp' H' := by
  obtain ⟨o, f0, _, _, _, rep⟩ := R.at (i := i) (s := env[i]) (by simp [hi])
  obtain ⟨fp', R', sub⟩ := rep H' (some v) (.ow v A) fi ⟨rfl, hA⟩ (fun a u e _ => x a u e) (fun a m => .inr (hn a m)) x.stp
  exact R.rex R' ⟨fun a u e _ => x a u e, sub, (x.ch (fp := fp)).there⟩
theorem ds_setL {i : Nat} {x : Str} {es : List Expr} {r : DAs nf} {pos pos' lpos : Pos} (hN : X.N.Nodup) (hi : X.N[i]? = some x) (hx : Loc X.env.scope x) (h : DA X nf es r) (hs : swapsWith (.List es lpos) (some (.Name x pos')) pos.line X.env = pure false := by rfl)
    (hf : X.fn x = true ∨ X.env.scope.names.lookup x = some .local := by first | exact .inl rfl | exact .inr rfl | assumption) : DS X nf (.Assign [.Name x pos'] (.List es lpos) pos) (sSetL X.K i r) :=
  ps_imp (ps_set hN hi hx (pe_lst h) hs hf) fun E σ H ⟨env, fp, De, R, q, br⟩ => ⟨env, fp, _, R, q, fun vs H1 ds env1 fp1 r1 R1 c1 ⟨hz, hl, q1⟩ => ⟨by rw [r1.length]; exact sz_ok hz, fun p hp => by
    have x : Xt H1 (upd H1 p (.lst vs)) := Xt.new hp
    obtain ⟨fp2, R2, c2⟩ := R1.setNew (i := i) (v := .ref p) (A := lstA X.K nf ds) (fi := [p]) hl x ⟨p, vs, rfl, rfl, upd_same, r1.mono x.stp⟩ (fun a m => by rw [List.mem_singleton.mp m]; exact hp)
    exact br.nx _ _ _ fp2 R2 (c1.trans c2) (q1 p)⟩⟩
/-- changing the list that slot i owns -/
theorem EnvR.lstAt {H : Hp} {σ : St} {env : EV nf} {fp : List Addr} (R : EnvR K nf H σ env fp) {i : Nat} {v : V} {xs : List D} (e : env[i]? = some (.ow v (lstA K nf xs))) :
    ∃ p vs, v = .ref p ∧ σ[i]? = some (some (.ref p)) ∧ H p = some (.lst vs) ∧ Rels K nf H vs xs ∧
      ∀ vs' xs', Rels K nf H vs' xs' → ∃ fp', EnvR K nf (upd H p (.lst vs')) σ (env.set i (.ow v (lstA K nf xs'))) fp' ∧ Ch fp H fp' (upd H p (.lst vs')) := by
  obtain ⟨o, fi, e1, ⟨eo, p, vs, ev, ef, hp, r⟩, sub, rep⟩ := R.at e
  subst eo ev ef
  refine ⟨p, vs, rfl, e1, hp, r, fun vs' xs' r' => ?_⟩
  have st : Stp nf H (upd H p (.lst vs')) := fun a u h f => by
    by_cases ha : a = p
    · subst ha; rw [hp] at h; cases h; exact f.elim
    · rw [upd_ne ha]; exact h
  obtain ⟨fp', R', sub'⟩ := rep (upd H p (.lst vs')) (some (.ref p)) (.ow (.ref p) (lstA K nf xs')) [p] ⟨rfl, p, vs', rfl, rfl, upd_same, r'.mono st⟩ (fun a u h n => by
    rw [upd_ne (fun z => n (by rw [z]; exact List.mem_singleton.mpr rfl))]; exact h) (fun a m => .inl m) st
  have es : σ.set i (some (.ref p)) = σ := by
    obtain ⟨h1, h2⟩ := List.getElem?_eq_some_iff.mp e1
    rw [← h2]
    exact List.set_getElem_self h1
  rw [es] at R'
  refine R.rex R' ⟨fun a u h n => ?_, sub', fun a h => ?_⟩
  · rw [upd_ne (fun z => n (by rw [z]; exact sub p (List.mem_singleton.mpr rfl)))]; exact h
  · by_cases ha : a = p
    · subst ha; rw [upd_same] at h; cases h
    · rw [upd_ne ha] at h; exact h
/-- xs.append(e) -/
def sApp (K : PySem.W.Frag) (i : Nat) (a : DT nf) : DTS nf := fun De env => a env fun d env1 => ∃ v xs, env1[i]? = some (.ow v (lstA K nf xs)) ∧ xs.length < 1000000 ∧ De.nx (env1.set i (.ow v (lstA K nf (xs ++ [d]))))
theorem ds_app {i : Nat} {o e : Expr} {a : DT nf} {apos cpos pos : Pos} (ho : PE X o (tVar i)) (h : DE X nf e a)
    (hbase : attributeBase o "append" X.env (eval o X.env) = eval o X.env := by rfl)
    (hfew : ((backTo cpos (starEach [e] X.env)).all (fun x => !x.1) && (backToKw cpos (keywordEach [] X.env)).all (fun x => x.1.isSome) && decide (([e] : List Expr).length + ([] : List Keyword).length + (if ([] : List Keyword).isEmpty then 0 else 1) < 30)) = true := by rfl)
    (hline : (apos.endLine == cpos.line) = true := by rfl) (hst : starEach [e] X.env = (false, eval e X.env) :: starEach [] X.env := by rfl) (hplain : (backTo cpos (starEach [] X.env)).any (·.1) = false := by rfl)
    (hs : swapsWith (.Call (.Attribute o "append" apos) [e] [] cpos) none pos.line X.env = pure false := by rfl) : DS X nf (.Expr (.Call (.Attribute o "append" apos) [e] [] cpos) pos) (fun De env => (∃ v xs, env[i]? = some (.ow v (lstA X.K nf xs))) ∧ sApp X.K i a De env) :=
  ps_imp (ps_expr (pe_bm PySem.F.plainAttrs_list PySem.F.slot_list_append PySem.F.type_list_append mt_append ho (pa_cons h pa_nil hst) hbase hfew hline hst hplain) hs) fun E σ H ⟨env, fp, De, R, ⟨⟨v0, xs0, e0⟩, q⟩, br⟩ => by
    obtain ⟨p0, vs0, ev0, es0, hp0, _, _⟩ := R.lstAt e0
    subst ev0
    refine ⟨_, es0, Or.inl ⟨rfl, vs0, SqL.of hp0⟩, lift_run R q fun w H1 d env1 fp1 r1 R1 c1 ⟨v, xs, e1, hl, q1⟩ => ?_⟩
    obtain ⟨p, vs, ev, es, hp, rr, rep⟩ := R1.lstAt e1
    rw [es0] at es
    cases es
    obtain ⟨fp2, R2, c2⟩ := rep (vs ++ [w]) (xs ++ [d]) (rr.append (.cons r1 .nil))
    exact ⟨p0, vs, w, rfl, rfl, hp, by rw [rr.length]; exact Nat.lt_of_lt_of_le hl (by decide), br.nx σ _ _ fp2 R2 (c1.trans c2) q1⟩
/-- the list of a slot, read as a value: frozen from here on -/
def dVarF (K : PySem.W.Frag) (i : Nat) : DT nf := fun env Q => ∃ v xs, env[i]? = some (.ow v (lstA K nf xs)) ∧ Q (.lst xs) (env.set i (.fz (.lst xs)))
theorem EnvR.fzAt {H : Hp} {σ : St} {env : EV nf} {fp : List Addr} (R : EnvR K nf H σ env fp) {i : Nat} {v : V} {xs : List D} (e : env[i]? = some (.ow v (lstA K nf xs))) :
    ∃ p vs, v = .ref p ∧ σ[i]? = some (some (.ref p)) ∧ H p = some (.lst vs) ∧
      ∀ o, Rel K nf (upd H p (.frz o (.lst vs))) (.ref p) (.lst xs) ∧ ∃ fp', EnvR K nf (upd H p (.frz o (.lst vs))) σ (env.set i (.fz (.lst xs))) fp' ∧ Ch fp H fp' (upd H p (.frz o (.lst vs))) := by
  obtain ⟨o, fi, e1, ⟨eo, p, vs, ev, ef, hp, r⟩, sub, rep⟩ := R.at e
  subst eo ev ef
  refine ⟨p, vs, rfl, e1, hp, fun o => ?_⟩
  have st : Stp nf H (upd H p (.frz o (.lst vs))) := fun a u h f => by
    by_cases ha : a = p
    · subst ha; rw [hp] at h; cases h; exact f.elim
    · rw [upd_ne ha]; exact h
  have rel : Rel K nf (upd H p (.frz o (.lst vs))) (.ref p) (.lst xs) := .lst ⟨o, upd_same⟩ (r.mono st)
  obtain ⟨fp', R', sub'⟩ := rep (upd H p (.frz o (.lst vs))) (some (.ref p)) (.fz (.lst xs)) [] ⟨rfl, _, rfl, rel⟩ (fun a u h n => by
    rw [upd_ne (fun z => n (by rw [z]; exact List.mem_singleton.mpr rfl))]; exact h) (fun a m => by cases m) st
  have es : σ.set i (some (.ref p)) = σ := by
    obtain ⟨h1, h2⟩ := List.getElem?_eq_some_iff.mp e1
    rw [← h2]
    exact List.set_getElem_self h1
  rw [es] at R'
  refine ⟨rel, R.rex R' ⟨fun a u h n => ?_, sub', fun a h => ?_⟩⟩
  · rw [upd_ne (fun z => n (by rw [z]; exact sub p (List.mem_singleton.mpr rfl)))]; exact h
  · by_cases ha : a = p
    · subst ha; rw [upd_same] at h; cases h
    · rw [upd_ne ha] at h; exact h
theorem de_varF {i : Nat} {e : Expr} (h : PE X e (tVar i)) : DE X nf e (dVarF X.K i) := pe_imp (pe_fz h) fun σ H Q ⟨env, fp, Qd, R, ⟨v, xs, e, q⟩, k⟩ => by
  obtain ⟨p, vs, ev, es, hp, f⟩ := R.fzAt e
  refine ⟨_, es, p, _, rfl, hp, trivial, fun o => ?_⟩
  obtain ⟨rel, fp', R', c⟩ := f o
  exact k _ _ _ _ fp' rel R' c q
end
end DL

namespace DL
open PySem L2
section
variable [Anch] {X : Cx} {nf : Addr → Nat} {K : PySem.W.Frag}
/-! ### what is walked -/
/-- the walk J, begun at H0, gives things that stand for ds, one by one, while all that is frozen stands -/
def WalkD (K : PySem.W.Frag) (nf : Addr → Nat) (J : It) (H0 : Hp) (ds : List D) : Prop :=
  ∃ G Y, Walk J ds.length G Y ∧ (∀ H, Stp nf H0 H → G H) ∧ ∀ i H x H2, i < ds.length → Stp nf H0 H → Y i H x H2 → Xt H H2 ∧ ∃ d, ds[i]? = some d ∧ Rel K nf H2 x d
def liftI (K : PySem.W.Frag) (nf : Addr → Nat) (di : DAs nf) : TI := fun σ H R => ∃ env fp Qd, EnvR K nf H σ env fp ∧ di env Qd ∧ ∀ J ds H' env' fp', WalkD K nf J H' ds → EnvR K nf H' σ env' fp' → Ch fp H fp' H' → Qd ds env' → R J H'
theorem pi_imp {tg e : Expr} {t t' : TI} (h : PI X tg e t) (i : ∀ σ H Q, t' σ H Q → t σ H Q) : PI X tg e t' := ⟨fun pins s σ H Q I q => h.run pins s σ H Q I (i σ H Q q)⟩
variable (X nf) in
abbrev DIo (tg e : Expr) (di : DAs nf) : Prop := PI X tg e (liftI X.K nf di)
def lsOf : D → Option (List D)
  | .lst xs => some xs
  | .scr ns => some (ns.map .int)
  | _ => none
theorem ints_rels {H : Hp} : ∀ (ns : List Int), Rels K nf H (ns.map V.int) (ns.map D.int)
  | [] => .nil
  | n :: ns => .cons (.int n) (ints_rels ns)
theorem ls_of {H : Hp} {v : V} {d : D} {xs : List D} (r : Rel K nf H v d) (e : lsOf d = some xs) : ∃ a vs, v = .ref a ∧ SqL K H a vs ∧ (∀ H', Stp nf H H' → SqL K H' a vs) ∧ Rels K nf H vs xs := by
  cases r <;> simp only [lsOf] at e <;> try cases e
  · rename_i hl rr
    exact ⟨_, _, rfl, hl.sq, fun _ s => (hl.mono s).sq, rr⟩
  · rename_i h
    exact ⟨_, _, rfl, h.sq, fun _ s => (h.mono s).sq, ints_rels _⟩
def iL (da : DT nf) : DAs nf := fun env Q => da env fun d env1 => ∃ xs, lsOf d = some xs ∧ Q xs env1
theorem di_list {tg l : Expr} {da : DT nf} (h : DE X nf l da) : DIo X nf tg l (iL da) := pi_imp (pi_list h) fun σ H R ⟨env, fp, Qd, R0, q, k⟩ =>
  lift_run R0 q fun v H1 d env1 fp1 r1 R1 c1 ⟨xs, e, q1⟩ => by
    obtain ⟨a, vs, ev, hl, hs, rr⟩ := ls_of r1 e
    subst ev
    refine ⟨a, rfl, ⟨vs, hl⟩, k _ xs H1 env1 fp1 ⟨_, _, rr.length ▸ walk_list (xs := vs), fun H s => hs H s, fun i H x H2 hi s ⟨e2, y⟩ => ?_⟩ R1 c1 q1⟩
    subst e2
    obtain ⟨d, e3, r3⟩ := rr.getV y
    exact ⟨Xt.refl, d, e3, r3.mono s⟩
def iT (da : DT nf) : DAs nf := fun env Q => da env fun d env1 => ∃ xs, d = .tup xs ∧ Q xs env1
theorem di_tup {tg l : Expr} {da : DT nf} (h : DE X nf l da) : DIo X nf tg l (iT da) := pi_imp (pi_tup h) fun σ H R ⟨env, fp, Qd, R0, q, k⟩ =>
  lift_run R0 q fun v H1 d env1 fp1 r1 R1 c1 ⟨xs, e, q1⟩ => by
    subst e
    cases r1 with
    | @tup a vs _ hl rr =>
      refine ⟨a, rfl, ⟨vs, hl⟩, k _ xs H1 env1 fp1 ⟨_, _, rr.length ▸ walk_tup (xs := vs), fun H s => sqT_mono s hl, fun i H x H2 hi s ⟨e2, y⟩ => ?_⟩ R1 c1 q1⟩
      subst e2
      obtain ⟨d, e3, r3⟩ := rr.getV y
      exact ⟨Xt.refl, d, e3, r3.mono s⟩
/-- lo, lo + 1, .. -/
def rangeD (lo : Int) (n : Nat) : List D := (List.range n).map fun i => .int (lo + (i : Nat))
theorem walk_rangeD (lo : Int) (n : Nat) (H0 : Hp) : WalkD K nf (Itr lo n) H0 (rangeD lo n) := by
  have e : (rangeD lo n).length = n := by simp [rangeD]
  refine ⟨fun _ => True, YFn fun i => .int (lo + i), by rw [e]; exact walk_range, fun _ _ => trivial, fun i H x H2 hi s ⟨e2, y⟩ => ?_⟩
  subst e2 y
  refine ⟨Xt.refl, .int (lo + i), ?_, .int _⟩
  rw [e] at hi
  simp [rangeD, hi]
def iR1 (r : DAs nf) : DAs nf := fun env Q => r env fun ds env1 => ∃ n : Int, ds = [.int n] ∧ (-(2 ^ 62) ≤ n ∧ n < 2 ^ 62) ∧ Q (rangeD 0 n.toNat) env1
def iR2 (r : DAs nf) : DAs nf := fun env Q => r env fun ds env1 => ∃ a n : Int, ds = [.int a, .int n] ∧ (-(2 ^ 62) ≤ a ∧ a < 2 ^ 62 ∧ -(2 ^ 62) ≤ n ∧ n < 2 ^ 62) ∧ Q (rangeD a (n - a).toNat) env1
theorem rels1 {H : Hp} {vs : List V} {n : Int} (r : Rels K nf H vs [.int n]) : vs = [.int n] := by
  cases r with
  | cons h t => cases t; cases h; rfl
theorem rels2 {H : Hp} {vs : List V} {a n : Int} (r : Rels K nf H vs [.int a, .int n]) : vs = [.int a, .int n] := by
  cases r with
  | cons h t => cases h; rw [rels1 t]
theorem di_range1 {tg a : Expr} {r : DAs nf} {p pos : Pos} (hg : Gl X "range") (hm : X.mg "range" = none) (ha : DA X nf [a] r) (hs : starEach [a] X.env = [(false, eval a X.env)] := by rfl) : DIo X nf tg (.Call (.Name "range" p) [a] [] pos) (iR1 r) :=
  pi_imp (pi_range1 hg hm ha hs) fun σ H R ⟨env, fp, Qd, R0, q, k⟩ => ⟨env, fp, _, R0, q, fun vs H1 ds env1 fp1 r1 R1 c1 ⟨n, e, hb, q1⟩ => by
    subst e
    exact ⟨n, rels1 r1, hb.1, hb.2, k _ _ H1 env1 fp1 (walk_rangeD 0 n.toNat H1) R1 c1 q1⟩⟩
theorem di_range2 {tg a b : Expr} {r : DAs nf} {p pos : Pos} (hg : Gl X "range") (hm : X.mg "range" = none) (ha : DA X nf [a, b] r) (hs : starEach [a, b] X.env = [(false, eval a X.env), (false, eval b X.env)] := by rfl) (hs2 : starEach [b] X.env = [(false, eval b X.env)] := by rfl) :
    DIo X nf tg (.Call (.Name "range" p) [a, b] [] pos) (iR2 r) :=
  pi_imp (pi_range2 hg hm ha hs hs2) fun σ H R ⟨env, fp, Qd, R0, q, k⟩ => ⟨env, fp, _, R0, q, fun vs H1 ds env1 fp1 r1 R1 c1 ⟨a, n, e, hb, q1⟩ => by
    subst e
    exact ⟨a, n, rels2 r1, hb, k _ _ H1 env1 fp1 (walk_rangeD a (n - a).toNat H1) R1 c1 q1⟩⟩
/-- the signs of a text, each a text -/
def signsD (z : Str) : List D := z.cps.toList.map fun c => .str ⟨#[c]⟩
def iS (da : DT nf) : DAs nf := fun env Q => da env fun d env1 => ∃ z, d = .str z ∧ Q (signsD z) env1
theorem di_str {tg l : Expr} {da : DT nf} (h : DE X nf l da) : DIo X nf tg l (iS da) := pi_imp (pi_str h) fun σ H R ⟨env, fp, Qd, R0, q, k⟩ =>
  lift_run R0 q fun v H1 d env1 fp1 r1 R1 c1 ⟨z, e, q1⟩ => by
    subst e
    cases r1
    have e : (signsD z).length = z.cps.size := by simp [signsD]
    refine ⟨z, rfl, k _ _ H1 env1 fp1 ⟨_, _, e ▸ walk_str (z := z), fun _ _ => trivial, fun i H x H2 hi s ⟨e2, c, hc, y⟩ => ?_⟩ R1 c1 q1⟩
    subst e2 y
    refine ⟨Xt.refl, .str ⟨#[c]⟩, ?_, .str _⟩
    simp [signsD, hc]
/-- a key as data -/
def kD : Key → D
  | .inl i => .int i
  | .inr x => .str x
theorem rel_key {H : Hp} (k : Key) : Rel K nf H (kV k) (kD k) := by
  cases k with
  | inl i => exact .int i
  | inr x => exact .str x
theorem RelK.length : ∀ {H : Hp} {vs : List (Key × V)} {ds : List (Key × D)}, RelK K nf H vs ds → vs.length = ds.length
  | _, _, _, .nil => rfl
  | _, _, _, .cons _ r => by rw [List.length_cons, List.length_cons, RelK.length r]
theorem RelK.getV : ∀ {H : Hp} {vs : List (Key × V)} {ds : List (Key × D)} {i : Nat} {k : Key} {v : V}, RelK K nf H vs ds → vs[i]? = some (k, v) → ∃ d, ds[i]? = some (k, d) ∧ Rel K nf H v d
  | _, _, _, _, _, _, .nil, e => by simp at e
  | _, _, _, 0, _, _, .cons h _, e => by simp at e; obtain ⟨rfl, rfl⟩ := e; exact ⟨_, rfl, h⟩
  | _, _, _, i + 1, k, v, .cons _ r, e => by
    obtain ⟨d, h1, h2⟩ := RelK.getV (i := i) (k := k) (v := v) r (by simpa using e)
    exact ⟨d, by simpa using h1, h2⟩
def iK (da : DT nf) : DAs nf := fun env Q => da env fun d env1 => ∃ kds, d = .dct kds ∧ Q (kds.map fun p => kD p.1) env1
theorem di_keys {tg l : Expr} {da : DT nf} (h : DE X nf l da) : DIo X nf tg l (iK da) := pi_imp (pi_keys h) fun σ H R ⟨env, fp, Qd, R0, q, k⟩ =>
  lift_run R0 q fun v H1 d env1 fp1 r1 R1 c1 ⟨kds, e, q1⟩ => by
    subst e
    cases r1 with
    | @dct a o kvs _ ha rr =>
      have e : (kds.map fun p => kD p.1).length = kvs.length := by rw [List.length_map, rr.length]
      refine ⟨a, o, rfl, .inl ⟨kvs, ha, k _ _ H1 env1 fp1 ⟨_, _, e ▸ walk_keys (d := a) (o := o) (kvs := kvs), fun H s => s _ _ ha trivial, fun i H x H2 hi s ⟨e2, kk, v, hk, y⟩ => ?_⟩ R1 c1 q1⟩⟩
      subst e2 y
      obtain ⟨d, e3, r3⟩ := rr.getV hk
      exact ⟨Xt.refl, kD kk, by simp [e3], rel_key kk⟩
def iKV (da : DT nf) : DAs nf := fun env Q => da env fun d env1 => ∃ kds, d = .dct kds ∧ Q (kds.map fun p => .tup [kD p.1, p.2]) env1
theorem di_items {tg l : Expr} {da : DT nf} {e : Expr} (h : DE X nf l da) (hi : PE X l (lift X.K nf da) → PI X tg e (iItems (lift X.K nf da))) : DIo X nf tg e (iKV da) := pi_imp (hi h) fun σ H R ⟨env, fp, Qd, R0, q, k⟩ =>
  lift_run R0 q fun v H1 d env1 fp1 r1 R1 c1 ⟨kds, e, q1⟩ => by
    subst e
    cases r1 with
    | @dct a o kvs _ ha rr =>
      have e : (kds.map fun p => D.tup [kD p.1, p.2]).length = kvs.length := by rw [List.length_map, rr.length]
      refine ⟨a, o, kvs, rfl, ha, k _ _ H1 env1 fp1 ⟨_, _, e ▸ walk_items (d := a) (o := o) (kvs := kvs), fun H s => s _ _ ha trivial, fun i H x H2 hi s y => ?_⟩ R1 c1 q1⟩
      obtain ⟨T, x1, y1, ex, hT, e2, h1, h2⟩ := y
      subst ex e2
      have h1 : kvs[i]?.map (fun kv => kV kv.1) = some x1 := h1
      have h2 : kvs[i]?.map Prod.snd = some y1 := h2
      cases hk : kvs[i]? with
      | none => rw [hk] at h1; cases h1
      | some kv =>
        rw [hk] at h1 h2
        simp only [Option.map_some, Option.some.injEq] at h1 h2
        subst h1 h2
        obtain ⟨d, e3, r3⟩ := rr.getV (k := kv.1) (v := kv.2) hk
        have xt : Xt H (upd H T (.tup [kV kv.1, kv.2])) := Xt.new hT
        exact ⟨xt, .tup [kD kv.1, d], by simp [e3], .tup (SqT.of upd_same) (.cons (rel_key _) (.cons ((r3.mono s).mono xt.stp) .nil))⟩

/-! ### for -/
def dFor (g : DG nf) (b : DTS nf) : List D → DTS nf
  | [], De, env => De.nx env
  | x :: xs, De, env => g x env fun env1 => b { De with nx := dFor g b xs De, ct := dFor g b xs De, bk := De.nx } env1
def sFor (di : DAs nf) (g : DG nf) (b : DTS nf) : DTS nf := fun De env => di env fun ds env1 => dFor g b ds De env1
theorem drop_cons {α : Type} {xs : List α} {i : Nat} {x : α} (h : xs[i]? = some x) : xs.drop i = x :: xs.drop (i + 1) := by
  obtain ⟨h1, h2⟩ := List.getElem?_eq_some_iff.mp h
  rw [← h2]
  exact List.drop_eq_getElem_cons h1
theorem ds_for {tg iter : Expr} {body : List Stmt} {pos : Pos} {di : DAs nf} {js : List Nat} {g : DG nf} {b : DTS nf} (hp : PassesOwn (model X.prog X.w) X.A X.env X.xe) (hc : X.calm = true) (hi : DIo X nf tg iter di) (hg : DGo X nf tg js g) (hb : DSs X nf body b)
    (hs : ∀ x, foldedSetIterable iter X.env x = pure x := by intro _; rfl) : DS X nf (.For tg iter body [] pos) (sFor di g b) := ps_imp (ps_for hp hc hi hg hb hs) fun E σ H ⟨env, fp, De, R, q, br⟩ =>
  ⟨env, fp, _, R, q, fun J ds H1 env1 fp1 ⟨G, Y, w, hG, hY⟩ R1 c1 q1 => by
    refine for_it w (fun i σ' H' => ∃ env' fp', EnvR X.K nf H' σ' env' fp' ∧ Ch fp1 H1 fp' H' ∧ dFor g b (ds.drop i) De env') ⟨env1, fp1, R1, Ch.refl, q1⟩ (fun i σ' H' _ ⟨env', fp', R', c', _⟩ => hG H' (c'.stp R1)) (fun i x σ' H' H2 hi ⟨env', fp', R', c', q'⟩ y => ?_) fun σ' H' ⟨env', fp', R', c', q'⟩ => ?_
    · obtain ⟨xt, d, ed, r⟩ := hY i H' x H2 hi (c'.stp R1) y
      rw [drop_cons ed] at q'
      refine ⟨d, env', fp', _, r, R'.ext xt, q', fun σ2 env2 fp2 _ R2 c2 q2 => ?_⟩
      have c3 := (c'.trans xt.ch).trans c2
      refine ⟨env2, fp2, _, R2, q2, ⟨fun σ3 H3 env3 fp3 R3 cc q3 => ⟨env3, fp3, R3, c3.trans cc, q3⟩, fun v d σ3 H3 env3 fp3 r3 R3 cc q3 => br.rt v d σ3 H3 env3 fp3 r3 R3 (c1.trans (c3.trans cc)) q3, fun σ3 H3 env3 fp3 R3 cc q3 => br.nx σ3 H3 env3 fp3 R3 (c1.trans (c3.trans cc)) q3, fun σ3 H3 env3 fp3 R3 cc q3 => ⟨env3, fp3, R3, c3.trans cc, q3⟩, fun v A σ3 H3 env3 fp3 fi i3 R3 n3 cc q3 => br.ro v A σ3 H3 env3 fp3 fi i3 R3 n3 (c1.trans (c3.trans cc)) q3⟩⟩
    · rw [List.drop_length] at q'
      exact br.nx σ' H' env' fp' R' (c1.trans c') q'⟩

/-! ### comprehensions -/
def wipeD (env : EV nf) : List Nat → EV nf
  | [] => env
  | j :: js => (wipeD env js).set j .un
theorem EnvR.forget {H : Hp} {σ : St} {env : EV nf} {fp : List Addr} (R : EnvR K nf H σ env fp) (o : Option V) (i : Nat) : ∃ fp', EnvR K nf H (σ.set i o) (env.set i .un) fp' ∧ Ch fp H fp' H := by
  by_cases hi : i < env.length
  · obtain ⟨_, fi, _, _, _, rep⟩ := R.at (i := i) (s := env[i]) (by simp [hi])
    obtain ⟨fp', R', sub⟩ := rep H o .un [] rfl (fun a u e _ => e) (fun a m => by cases m) Stp.refl
    exact R.rex R' ⟨fun a u e _ => e, sub, fun a e => e⟩
  · rw [List.set_eq_of_length_le (by have := R.length; omega), List.set_eq_of_length_le (by have := R.length; omega)]
    exact ⟨fp, R, Ch.refl⟩
theorem EnvR.wipe {H : Hp} {σ : St} {env : EV nf} {fp : List Addr} (R : EnvR K nf H σ env fp) : ∀ js : List Nat, ∃ fp', EnvR K nf H (L2.wipe σ js) (wipeD env js) fp' ∧ Ch fp H fp' H
  | [] => ⟨fp, R, Ch.refl⟩
  | j :: js => by
    obtain ⟨fp1, R1, c1⟩ := EnvR.wipe R js
    obtain ⟨fp2, R2, c2⟩ := R1.forget none j
    exact ⟨fp2, R2, c1.trans c2⟩
theorem wipeD_len (env : EV nf) : ∀ js, (wipeD env js).length = env.length
  | [] => rfl
  | j :: js => by show ((wipeD env js).set j .un).length = _; rw [List.length_set, wipeD_len env js]
theorem EnvL.noset {H : Hp} {σ : St} {env : EV nf} {fp : List Addr} (R : EnvL K nf H σ env fp) (o : Option V) (i : Nat) (h : env[i]? = some .un ∨ env.length ≤ i) : EnvL K nf H (σ.set i o) env fp := by
  induction R generalizing i with
  | nil => exact .nil
  | @cons o1 σ1 s env1 fp1 fq hs he hd ih =>
    cases i with
    | zero =>
      rcases h with h | h
      · simp at h
        subst h
        have e : fp1 = [] := hs
        exact .cons (show SlotR K nf H o fp1 .un from e) he hd
      · simp at h
    | succ i => exact .cons hs (ih i (by simpa using h)) hd
theorem EnvR.noset {H : Hp} {σ : St} {env : EV nf} {fp : List Addr} (R : EnvR K nf H σ env fp) (o : Option V) (i : Nat) (h : env[i]? = some .un ∨ env.length ≤ i) : EnvR K nf H (σ.set i o) env fp := ⟨R.1.noset o i h, R.2⟩
/-- slots that are forgotten may hold anything -/
theorem EnvR.unwipe {H : Hp} {σ σ' : St} {env : EV nf} {fp : List Addr} : ∀ (js : List Nat), EnvR K nf H σ env fp → L2.wipe σ' js = L2.wipe σ js → (∀ j ∈ js, env[j]? = some .un ∨ env.length ≤ j) → EnvR K nf H σ' env fp := by
  intro js R e hu
  have all : ∀ (js : List Nat), (∀ j ∈ js, env[j]? = some .un ∨ env.length ≤ j) → ∀ σ1 : St, EnvR K nf H σ1 env fp → EnvR K nf H (L2.wipe σ1 js) env fp := by
    intro js
    induction js with
    | nil => intro _ σ1 R1; exact R1
    | cons j js ih => intro h σ1 R1; exact (ih (fun k m => h k (List.mem_cons_of_mem _ m)) σ1 R1).noset none j (h j List.mem_cons_self)
  have back : ∀ (js : List Nat), (∀ j ∈ js, env[j]? = some .un ∨ env.length ≤ j) → ∀ σ1 : St, EnvR K nf H (L2.wipe σ1 js) env fp → EnvR K nf H σ1 env fp := by
    intro js
    induction js with
    | nil => intro _ σ1 R1; exact R1
    | cons j js ih =>
      intro h σ1 R1
      refine ih (fun k m => h k (List.mem_cons_of_mem _ m)) σ1 ?_
      have R2 : EnvR K nf H ((L2.wipe σ1 js).set j none) env fp := R1
      by_cases hj : j < (L2.wipe σ1 js).length
      · have R3 := R2.noset ((L2.wipe σ1 js)[j]) j (h j List.mem_cons_self)
        rw [List.set_set, List.set_getElem_self hj] at R3
        exact R3
      · rw [List.set_eq_of_length_le (by omega)] at R2
        exact R2
  exact back js hu σ' (e ▸ all js hu σ R)
theorem wipeD_un (env : EV nf) : ∀ (js : List Nat), ∀ j ∈ js, (wipeD env js)[j]? = some .un ∨ (wipeD env js).length ≤ j
  | [], _, m => by cases m
  | k :: js, j, m => by
    show ((wipeD env js).set k .un)[j]? = some .un ∨ ((wipeD env js).set k .un).length ≤ j
    rw [List.length_set]
    by_cases hk : k = j
    · subst hk
      by_cases hl : k < (wipeD env js).length
      · exact .inl (List.getElem?_set_self hl)
      · exact .inr (by omega)
    · rcases List.mem_cons.mp m with e | m
      · exact absurd e.symm hk
      · rw [List.getElem?_set_ne hk]
        exact wipeD_un env js j m
def dComp (g : DG nf) (dt : DB nf) (de : DT nf) (js : List Nat) : List D → List D → EV nf → (List D → EV nf → Prop) → Prop
  | [], acc, env, Q => Q acc env
  | x :: xs, acc, env, Q => g x env fun env1 => dt env1 fun b env2 => if b = true then de env2 fun d env3 => acc.length < 1000000 ∧ dComp g dt de js xs (acc ++ [d]) (wipeD env3 js) Q else dComp g dt de js xs acc (wipeD env2 js) Q
def dYes : DB nf := fun env Q => Q true env
def dLc (di : DAs nf) (g : DG nf) (dt : DB nf) (de : DT nf) (js : List Nat) : DT nf := fun env Q => di env fun ds env1 => dComp g dt de js ds [] (wipeD env1 js) fun acc env2 => Q (.lst acc) env2
/-- the reading of a comprehension; Qe: what is wanted of the new list (not frozen yet) -/
theorem lift_lc {di : DAs nf} {g : DG nf} {dt : DB nf} {de : DT nf} {js : List Nat} {σ : St} {H : Hp} {Q : VK} {env : EV nf} {fp : List Addr} {Qd : List D → EV nf → Prop} (R : EnvR K nf H σ env fp)
    (h : di env fun ds env1 => dComp g dt de js ds [] (wipeD env1 js) Qd)
    (k : ∀ p vs H' ds env' fp', H p = none → H' p = some (.lst vs) → p ∉ fp' → Rels K nf H' vs ds → EnvR K nf H' σ env' fp' → Ch fp H fp' H' → Qd ds env' → Q (.ref p) H') :
    tLc (liftI K nf di) (liftG K nf js g) (liftB K nf dt) (lift K nf de) js σ H Q := by
  refine ⟨env, fp, _, R, h, fun J ds H1 env1 fp1 ⟨G, Y, w, hG, hY⟩ R1 c1 q1 => fun Dl hD => ?_⟩
  obtain ⟨fpw, Rw, cw⟩ := R1.wipe js
  have x0 : Xt H1 (upd H1 Dl (.lst [])) := Xt.new hD
  refine lc_it w (fun i H' => ∃ env' fp' vs acc, EnvR K nf H' (L2.wipe σ js) env' fp' ∧ Ch fp1 H1 fp' H' ∧ Dl ∉ fp' ∧ H' Dl = some (.lst vs) ∧ Rels K nf H' vs acc ∧ (∀ j ∈ js, env'[j]? = some .un ∨ env'.length ≤ j) ∧ dComp g dt de js (ds.drop i) acc env' Qd)
    ⟨_, fpw, [], [], Rw.ext x0, cw.trans x0.ch, (fun m => by obtain ⟨u, e, _⟩ := Rw.trk Dl m; rw [hD] at e; cases e), upd_same, .nil, wipeD_un env1 js, q1⟩
    (fun i H' _ ⟨env', fp', _, _, R', c', _⟩ => hG H' (c'.stp R1)) (fun i x H' H2 hi ⟨env', fp', vs, acc, R', c', nD, hDl, rr, hu, q'⟩ y => ?_) fun H' ⟨env', fp', vs, acc, R', c', nD, hDl, rr, hu, q'⟩ => ?_
  · obtain ⟨xt, d, ed, r⟩ := hY i H' x H2 hi (c'.stp R1) y
    rw [drop_cons ed] at q'
    refine ⟨d, env', fp', _, r, R'.ext xt, q', fun σ2 env2 fp2 hw R2 c2 q2 => ⟨by rw [hw]; exact wipe_wipe σ js, ?_⟩⟩
    have c3 := (c'.trans xt.ch).trans c2
    have nD2 : Dl ∉ fp2 := fun m => by
      rcases (xt.ch.trans c2).sub Dl m with z | z
      · exact nD z
      · rw [hDl] at z; cases z
    have hD2 : H2 Dl = some (.lst vs) := xt _ _ hDl
    refine ⟨env2, fp2, _, R2, q2, fun b H3 env3 fp3 R3 c4 q3 => ?_⟩
    have nD3 : Dl ∉ fp3 := fun m => by
      rcases c4.sub Dl m with z | z
      · exact nD2 z
      · rw [hD2] at z; cases z
    have hD3 : H3 Dl = some (.lst vs) := c4.keep _ _ hD2 nD2
    have st3 : Stp nf H' H3 := xt.stp.trans (c4.stp R2)
    cases b with
    | true =>
      show lift K nf de σ2 H3 _
      refine lift_run R3 q3 fun v H4 d4 env4 fp4 r4 R4 c5 ⟨hlen, q4⟩ => ?_
      have nD4 : Dl ∉ fp4 := fun m => by
        rcases c5.sub Dl m with z | z
        · exact nD3 z
        · rw [hD3] at z; cases z
      have hD4 : H4 Dl = some (.lst vs) := c5.keep _ _ hD3 nD3
      have rr4 : Rels K nf H4 vs acc := rr.mono (st3.trans (c5.stp R3))
      obtain ⟨fp5, R5, c6⟩ := R4.wipe js
      have nD5 : Dl ∉ fp5 := fun m => by
        rcases c6.sub Dl m with z | z
        · exact nD4 z
        · rw [hD4] at z; cases z
      have st5 : Stp nf H4 (upd H4 Dl (.lst (vs ++ [v]))) := fun a u e f => by
        by_cases ha : a = Dl
        · subst ha; rw [hD4] at e; cases e; exact f.elim
        · rw [upd_ne ha]; exact e
      have R6 := R5.frame (H' := upd H4 Dl (.lst (vs ++ [v]))) (fun a m => upd_ne fun z => nD5 (z ▸ m)) st5 R1.2 ((((c3.trans c4).trans c5).trans c6).put hD)
      have hw' : L2.wipe σ2 js = L2.wipe σ js := by rw [hw]; exact wipe_wipe σ js
      rw [hw'] at R6
      refine ⟨vs, hD4, by rw [rr4.length]; exact Nat.lt_of_lt_of_le hlen (by decide), _, fp5, vs ++ [v], acc ++ [d4], R6, ?_, nD5, upd_same, (rr4.append (.cons r4 .nil)).mono st5, wipeD_un _ _, q4⟩
      have cc := ((c3.trans c4).trans c5).trans c6
      exact ⟨fun a u e n => by rw [upd_ne (ne_of_none e hD)]; exact cc.keep a u e n, cc.sub, fun a e => cc.there a (by
        by_cases ha : a = Dl
        · subst ha; rw [upd_same] at e; cases e
        · rw [upd_ne ha] at e; exact e)⟩
    | false =>
      obtain ⟨fp5, R5, c6⟩ := R3.wipe js
      have hw' : L2.wipe σ2 js = L2.wipe σ js := by rw [hw]; exact wipe_wipe σ js
      rw [hw'] at R5
      refine ⟨_, fp5, vs, acc, R5, (c3.trans c4).trans c6, fun m => ?_, hD3, rr.mono st3, wipeD_un _ _, q3⟩
      rcases c6.sub Dl m with z | z
      · exact nD3 z
      · rw [hD3] at z; cases z
  · rw [List.drop_length] at q'
    have R7 : EnvR K nf H' σ env' fp' := EnvR.unwipe js R' (wipe_wipe σ js).symm hu
    have hDn : H Dl = none := c1.there Dl hD
    exact k Dl vs H' acc env' fp' hDn hDl nD rr R7 (c1.trans c') q'
where
  wipe_wipe (σ : St) : ∀ js : List Nat, L2.wipe (L2.wipe σ js) js = L2.wipe σ js
    | [] => rfl
    | j :: js => by
      show (L2.wipe ((L2.wipe σ js).set j none) js).set j none = (L2.wipe σ js).set j none
      rw [wipe_out, List.set_set, wipe_wipe σ js]
end
end DL

namespace DL
open PySem L2
section
variable [Anch] {X : Cx} {nf : Addr → Nat} {K : PySem.W.Frag}
/-! ### the footprints slot by slot -/
structure EnvF (K : PySem.W.Frag) (nf : Addr → Nat) (H : Hp) (σ : St) (env : EV nf) (f : Nat → List Addr) : Prop where
  len : σ.length = env.length
  slot : ∀ i s, env[i]? = some s → ∃ o, σ[i]? = some o ∧ SlotR K nf H o (f i) s
  apart : ∀ i j, i < env.length → j < env.length → i ≠ j → ∀ a ∈ f i, a ∉ f j
theorem EnvL.toF {H : Hp} {σ : St} {env : EV nf} {fp : List Addr} (R : EnvL K nf H σ env fp) : ∃ f, EnvF K nf H σ env f ∧ ∀ a, a ∈ fp ↔ ∃ i, i < env.length ∧ a ∈ f i := by
  induction R with
  | nil => exact ⟨fun _ => [], ⟨rfl, fun i s e => (by simp at e), fun i j h => (by simp at h)⟩, fun a => ⟨fun m => (by cases m), fun ⟨i, h, _⟩ => (by simp at h)⟩⟩
  | @cons o σ s env fp fq hs he hd ih =>
    obtain ⟨f, F, hm⟩ := ih
    refine ⟨fun i => match i with | 0 => fp | i + 1 => f i, ⟨by simp [F.len], fun i s' e => ?_, fun i j hi hj hij a ha => ?_⟩, fun a => ⟨fun m => ?_, fun ⟨i, hi, m⟩ => ?_⟩⟩
    · cases i with
      | zero => simp at e; subst e; exact ⟨o, rfl, hs⟩
      | succ i => exact F.slot i s' (by simpa using e)
    · cases i with
      | zero =>
        cases j with
        | zero => exact absurd rfl hij
        | succ j => exact fun z => hd a ha ((hm a).mpr ⟨j, by simpa using hj, z⟩)
      | succ i =>
        cases j with
        | zero => exact fun z => hd a z ((hm a).mpr ⟨i, by simpa using hi, ha⟩)
        | succ j => exact F.apart i j (by simpa using hi) (by simpa using hj) (fun e => hij (by rw [e])) a ha
    · rcases List.mem_append.mp m with m | m
      · exact ⟨0, by simp, m⟩
      · obtain ⟨i, hi, mi⟩ := (hm a).mp m
        exact ⟨i + 1, by simp; omega, mi⟩
    · cases i with
      | zero => exact List.mem_append_left _ m
      | succ i => exact List.mem_append_right _ ((hm a).mpr ⟨i, by simpa using hi, m⟩)
theorem EnvF.toR : ∀ {H : Hp} {σ : St} {env : EV nf} {f : Nat → List Addr}, EnvF K nf H σ env f → ∃ fp, EnvL K nf H σ env fp ∧ ∀ a, a ∈ fp ↔ ∃ i, i < env.length ∧ a ∈ f i
  | _, [], [], _, _ => ⟨[], .nil, fun a => ⟨fun m => (by cases m), fun ⟨i, h, _⟩ => (by simp at h)⟩⟩
  | _, [], _ :: _, _, F => by have := F.len; simp at this
  | _, _ :: _, [], _, F => by have := F.len; simp at this
  | H, o :: σ, s :: env, f, F => by
    obtain ⟨fq, R, hm⟩ := EnvF.toR (H := H) (σ := σ) (env := env) (f := fun i => f (i + 1)) ⟨by have := F.len; simpa using this, fun i s' e => by
      obtain ⟨o', e', h'⟩ := F.slot (i + 1) s' (by simpa using e)
      exact ⟨o', by simpa using e', h'⟩, fun i j hi hj hij a ha => F.apart (i + 1) (j + 1) (by simp; omega) (by simp; omega) (by omega) a ha⟩
    obtain ⟨o', e', h'⟩ := F.slot 0 s rfl
    simp at e'
    subst e'
    refine ⟨f 0 ++ fq, .cons h' R fun a ha hq => ?_, fun a => ⟨fun m => ?_, fun ⟨i, hi, m⟩ => ?_⟩⟩
    · obtain ⟨i, hi, mi⟩ := (hm a).mp hq
      exact F.apart 0 (i + 1) (by simp) (by simp; omega) (by omega) a ha mi
    · rcases List.mem_append.mp m with m | m
      · exact ⟨0, by simp, m⟩
      · obtain ⟨i, hi, mi⟩ := (hm a).mp m
        exact ⟨i + 1, by simp; omega, mi⟩
    · cases i with
      | zero => exact List.mem_append_left _ m
      | succ i => exact List.mem_append_right _ ((hm a).mpr ⟨i, by simpa using hi, m⟩)

/-! ### arguments: data, or a slot as it is -/
inductive AD where
  | v (d : D) | o (i : Nat)
def resolve (env : EV nf) : AD → SD nf
  | .v d => .fz d
  | .o i => (env[i]?).getD .un
def slotsOf : List AD → List Nat
  | [] => []
  | .v _ :: r => slotsOf r
  | .o i :: r => i :: slotsOf r
def putBack : EV nf → List AD → List (SD nf) → EV nf
  | env, [], _ => env
  | env, _ :: _, [] => env
  | env, .v _ :: r, _ :: as => putBack env r as
  | env, .o i :: r, s :: as => putBack (env.set i s) r as
theorem putBack_len : ∀ (env : EV nf) (ads : List AD) (as : List (SD nf)), (putBack env ads as).length = env.length
  | env, [], _ => by simp only [putBack]
  | env, _ :: _, [] => by simp only [putBack]
  | env, .v _ :: r, _ :: as => by simp only [putBack]; exact putBack_len env r as
  | env, .o i :: r, s :: as => by simp only [putBack]; rw [putBack_len, List.length_set]
/-- what stands at i behind it: the argument's new state, or what stood -/
theorem putBack_get : ∀ (env : EV nf) (ads : List AD) (as : List (SD nf)) (i : Nat) (s : SD nf), ads.length = as.length → (slotsOf ads).Nodup → (putBack env ads as)[i]? = some s →
    (i ∉ slotsOf ads ∧ env[i]? = some s) ∨ ∃ k : Nat, ads[k]? = some (.o i) ∧ as[k]? = some s
  | env, [], _, i, s, _, _, e => by simp only [putBack] at e; exact .inl ⟨(fun m => by cases m), e⟩
  | env, a :: r, [], i, s, hl, _, e => by simp at hl
  | env, .v d :: r, _ :: as, i, s, hl, nd, e => by
    simp only [putBack] at e
    rcases putBack_get env r as i s (by simpa using hl) nd e with h | ⟨k, h1, h2⟩
    · exact .inl h
    · exact .inr ⟨k + 1, by simpa using h1, by simpa using h2⟩
  | env, .o j :: r, s0 :: as, i, s, hl, nd, e => by
    have nd' : (j :: slotsOf r).Nodup := nd
    simp only [putBack] at e
    rcases putBack_get (env.set j s0) r as i s (by simpa using hl) (List.nodup_cons.mp nd').2 e with ⟨h1, h2⟩ | ⟨k, h1, h2⟩
    · by_cases hj : j = i
      · subst hj
        by_cases hl2 : j < env.length
        · rw [List.getElem?_set_self hl2] at h2
          exact .inr ⟨0, rfl, by simpa using h2⟩
        · rw [List.getElem?_eq_none (by simpa using hl2)] at h2
          cases h2
      · rw [List.getElem?_set_ne hj] at h2
        refine .inl ⟨fun m => ?_, h2⟩
        rcases List.mem_cons.mp (show i ∈ j :: slotsOf r from m) with z | z
        · exact hj z.symm
        · exact h1 z
    · exact .inr ⟨k + 1, by simpa using h1, by simpa using h2⟩
inductive ArgsM (K : PySem.W.Frag) (nf : Addr → Nat) (H : Hp) (σ : St) : List V → List AD → Prop
  | nil : ArgsM K nf H σ [] []
  | val {v : V} {d : D} {vs ads} : Rel K nf H v d → ArgsM K nf H σ vs ads → ArgsM K nf H σ (v :: vs) (.v d :: ads)
  | slot {v : V} {i : Nat} {vs ads} : σ[i]? = some (some v) → ArgsM K nf H σ vs ads → ArgsM K nf H σ (v :: vs) (.o i :: ads)
theorem ArgsM.mono {H H' : Hp} {σ : St} (e : Stp nf H H') : ∀ {vs : List V} {ads : List AD}, ArgsM K nf H σ vs ads → ArgsM K nf H' σ vs ads
  | _, _, .nil => .nil
  | _, _, .val h r => .val (h.mono e) (r.mono e)
  | _, _, .slot h r => .slot h (r.mono e)
theorem ArgsM.len {H : Hp} {σ : St} : ∀ {vs : List V} {ads : List AD}, ArgsM K nf H σ vs ads → vs.length = ads.length
  | _, _, .nil => rfl
  | _, _, .val _ r => by rw [List.length_cons, List.length_cons, ArgsM.len r]
  | _, _, .slot _ r => by rw [List.length_cons, List.length_cons, ArgsM.len r]
theorem ArgsM.get {H : Hp} {σ : St} : ∀ {vs : List V} {ads : List AD} {k : Nat} {ad : AD}, ArgsM K nf H σ vs ads → ads[k]? = some ad → ∃ v, vs[k]? = some v ∧ match ad with | .v d => Rel K nf H v d | .o i => σ[i]? = some (some v)
  | _, _, _, _, .nil, e => by simp at e
  | _, _, 0, _, .val h _, e => by simp at e; subst e; exact ⟨_, rfl, h⟩
  | _, _, 0, _, .slot h _, e => by simp at e; subst e; exact ⟨_, rfl, h⟩
  | _, _, k + 1, ad, .val _ r, e => by
    obtain ⟨v, h1, h2⟩ := ArgsM.get (k := k) (ad := ad) r (by simpa using e)
    exact ⟨v, by simpa using h1, h2⟩
  | _, _, k + 1, ad, .slot _ r, e => by
    obtain ⟨v, h1, h2⟩ := ArgsM.get (k := k) (ad := ad) r (by simpa using e)
    exact ⟨v, by simpa using h1, h2⟩
theorem slots_mem : ∀ {ads : List AD} {k i : Nat}, ads[k]? = some (.o i) → i ∈ slotsOf ads
  | [], _, _, e => by simp at e
  | .v _ :: r, 0, i, e => by simp at e
  | .v _ :: r, k + 1, i, e => slots_mem (ads := r) (k := k) (by simpa using e)
  | .o j :: r, 0, i, e => by simp at e; subst e; exact List.mem_cons_self
  | .o j :: r, k + 1, i, e => List.mem_cons_of_mem _ (slots_mem (ads := r) (k := k) (by simpa using e))
theorem slots_inj : ∀ {ads : List AD} {k l i : Nat}, (slotsOf ads).Nodup → ads[k]? = some (.o i) → ads[l]? = some (.o i) → k = l
  | [], _, _, _, _, e, _ => by simp at e
  | .v _ :: r, 0, _, _, _, e, _ => by simp at e
  | .v _ :: r, _ + 1, 0, _, _, _, e => by simp at e
  | .v _ :: r, k + 1, l + 1, i, nd, e, e' => by rw [slots_inj (ads := r) (k := k) (l := l) nd (by simpa using e) (by simpa using e')]
  | .o j :: r, 0, 0, _, _, _, _ => rfl
  | .o j :: r, 0, l + 1, i, nd, e, e' => by
    simp at e
    subst e
    have nd' : (j :: slotsOf r).Nodup := nd
    exact absurd (slots_mem (ads := r) (k := l) (by simpa using e')) (List.nodup_cons.mp nd').1
  | .o j :: r, k + 1, 0, i, nd, e, e' => by
    simp at e'
    subst e'
    have nd' : (j :: slotsOf r).Nodup := nd
    exact absurd (slots_mem (ads := r) (k := k) (by simpa using e)) (List.nodup_cons.mp nd').1
  | .o j :: r, k + 1, l + 1, i, nd, e, e' => by
    have nd' : (j :: slotsOf r).Nodup := nd
    rw [slots_inj (ads := r) (k := k) (l := l) (List.nodup_cons.mp nd').2 (by simpa using e) (by simpa using e')]
theorem slots_idx : ∀ {ads : List AD} {i : Nat}, i ∈ slotsOf ads → ∃ k : Nat, ads[k]? = some (.o i)
  | [], _, m => by cases m
  | .v _ :: r, i, m => let ⟨k, e⟩ := slots_idx (ads := r) (i := i) m; ⟨k + 1, by simpa using e⟩
  | .o j :: r, i, m => by
    rcases List.mem_cons.mp (show i ∈ j :: slotsOf r from m) with z | z
    · subst z; exact ⟨0, rfl⟩
    · obtain ⟨k, e⟩ := slots_idx (ads := r) (i := i) z
      exact ⟨k + 1, by simpa using e⟩
/-- THE ARGUMENTS of a call taken out of the slots, and put back behind it -/
theorem EnvL.args {H : Hp} {σ : St} {env : EV nf} {fp : List Addr} (R : EnvL K nf H σ env fp) {vs : List V} {ads : List AD} (M : ArgsM K nf H σ vs ads) (nd : (slotsOf ads).Nodup) (hin : ∀ i ∈ slotsOf ads, i < env.length) :
    ∃ fpa, EnvL K nf H (vs.map some) (ads.map (resolve env)) fpa ∧ ∀ H' as fpa', as.length = ads.length → EnvL K nf H' (vs.map some) as fpa' → Ch fpa H fpa' H' → ∃ fp', EnvL K nf H' σ (putBack env ads as) fp' ∧ Ch fp H fp' H' ∧ (∀ a ∈ fp', a ∈ fpa' ∨ (a ∈ fp ∧ a ∉ fpa)) ∧ ∀ a ∈ fpa, a ∈ fp := by
  classical
  obtain ⟨f, F, hm⟩ := R.toF
  let g : Nat → List Addr := fun k => match ads[k]? with | some (.o i) => f i | _ => []
  have gv : ∀ k i, ads[k]? = some (.o i) → g k = f i := fun k i e => by show (match ads[k]? with | some (.o i) => f i | _ => []) = _; rw [e]
  have gd : ∀ k d, ads[k]? = some (.v d) → g k = [] := fun k d e => by show (match ads[k]? with | some (.o i) => f i | _ => []) = _; rw [e]
  have gmem : ∀ k a, a ∈ g k → ∃ i, ads[k]? = some (.o i) ∧ a ∈ f i := fun k a m => by
    cases e : ads[k]? with
    | none => have : g k = [] := by show (match ads[k]? with | some (.o i) => f i | _ => []) = _; rw [e]
              rw [this] at m; cases m
    | some ad =>
      cases ad with
      | v d => rw [gd k d e] at m; cases m
      | o i => rw [gv k i e] at m; exact ⟨i, rfl, m⟩
  have FA : EnvF K nf H (vs.map some) (ads.map (resolve env)) g := by
    refine ⟨by simp [M.len], fun k s e => ?_, fun k l hk hl hkl a ha => ?_⟩
    · rw [List.getElem?_map] at e
      cases ea : ads[k]? with
      | none => rw [ea] at e; cases e
      | some ad =>
        rw [ea] at e
        simp only [Option.map_some, Option.some.injEq] at e
        obtain ⟨v, ev, hv⟩ := M.get ea
        refine ⟨some v, by rw [List.getElem?_map, ev]; rfl, ?_⟩
        cases ad with
        | v d =>
          subst e
          rw [gd k d ea]
          exact ⟨rfl, v, rfl, hv⟩
        | o i =>
          have hv' : σ[i]? = some (some v) := hv
          have hi := hin i (slots_mem ea)
          obtain ⟨o, eo, so⟩ := F.slot i env[i] (by simp [hi])
          rw [hv'] at eo
          cases eo
          subst e
          rw [gv k i ea]
          show SlotR K nf H (some v) (f i) ((env[i]?).getD .un)
          simp only [List.getElem?_eq_getElem hi, Option.getD_some]
          exact so
    · obtain ⟨i, ei, mi⟩ := gmem k a ha
      intro z
      obtain ⟨j, ej, mj⟩ := gmem l a z
      by_cases hij : i = j
      · subst hij
        exact hkl (slots_inj nd ei ej)
      · exact F.apart i j (hin i (slots_mem ei)) (hin j (slots_mem ej)) hij a mi mj
  obtain ⟨fpa, RA, hma⟩ := FA.toR
  refine ⟨fpa, RA, fun H' as fpa' hl RA' ch => ?_⟩
  obtain ⟨g', F', hm'⟩ := RA'.toF
  have inA : ∀ a, a ∈ fpa ↔ ∃ i, i ∈ slotsOf ads ∧ a ∈ f i := fun a => by
    refine ⟨fun m => ?_, fun ⟨i, hi, mi⟩ => ?_⟩
    · obtain ⟨k, _, mk⟩ := (hma a).mp m
      obtain ⟨i, ei, mi⟩ := gmem k a mk
      exact ⟨i, slots_mem ei, mi⟩
    · obtain ⟨k, ek⟩ := slots_idx hi
      refine (hma a).mpr ⟨k, ?_, by rw [gv k i ek]; exact mi⟩
      rw [List.length_map]
      exact (List.getElem?_eq_some_iff.mp ek).1
  have st : Stp nf H H' := ch.stpL RA
  let f' : Nat → List Addr := fun i => if h : i ∈ slotsOf ads then g' (Classical.choose (slots_idx h)) else f i
  have fv : ∀ k i, ads[k]? = some (.o i) → f' i = g' k := fun k i e => by
    have h : i ∈ slotsOf ads := slots_mem e
    show (if h : i ∈ slotsOf ads then g' (Classical.choose (slots_idx h)) else f i) = _
    rw [dif_pos h, slots_inj nd (Classical.choose_spec (slots_idx h)) e]
  have fo : ∀ i, i ∉ slotsOf ads → f' i = f i := fun i h => dif_neg h
  have notA : ∀ i, i < env.length → i ∉ slotsOf ads → ∀ a ∈ f i, a ∉ fpa := fun i hi h a ha z => by
    obtain ⟨j, hj, mj⟩ := (inA a).mp z
    exact F.apart i j hi (hin j hj) (fun e => h (e ▸ hj)) a ha mj
  have trk : ∀ i, i < env.length → ∀ a ∈ f i, ∃ u, H a = some u := fun i hi a ha => by
    obtain ⟨u, e, _⟩ := R.trk a ((hm a).mpr ⟨i, hi, ha⟩)
    exact ⟨u, e⟩
  have kl : ∀ k i, ads[k]? = some (.o i) → k < as.length := fun k i e => by rw [hl]; exact (List.getElem?_eq_some_iff.mp e).1
  have FF : EnvF K nf H' σ (putBack env ads as) f' := by
    refine ⟨by rw [putBack_len]; exact F.len, fun i s e => ?_, fun i j hi hj hij a ha => ?_⟩
    · rcases putBack_get env ads as i s hl.symm nd e with ⟨h1, h2⟩ | ⟨k, h1, h2⟩
      · obtain ⟨o, eo, so⟩ := F.slot i s h2
        have hi : i < env.length := (List.getElem?_eq_some_iff.mp h2).1
        refine ⟨o, eo, ?_⟩
        rw [fo i h1]
        refine so.frame (fun a ha => ?_) st
        obtain ⟨u, eu⟩ := trk i hi a ha
        rw [eu]
        exact ch.keep a u eu (notA i hi h1 a ha)
      · obtain ⟨o, eo, so⟩ := F'.slot k s h2
        obtain ⟨v, ev, hv⟩ := M.get h1
        rw [List.getElem?_map, ev] at eo
        cases eo
        refine ⟨some v, hv, ?_⟩
        rw [fv k i h1]
        exact so
    · rw [putBack_len] at hi hj
      by_cases h1 : i ∈ slotsOf ads
      · obtain ⟨k, ek⟩ := slots_idx h1
        rw [fv k i ek] at ha
        by_cases h2 : j ∈ slotsOf ads
        · obtain ⟨l, el⟩ := slots_idx h2
          rw [fv l j el]
          exact F'.apart k l (kl k i ek) (kl l j el) (fun e => hij (by
            subst e
            rw [ek] at el
            cases el
            rfl)) a ha
        · rw [fo j h2]
          intro z
          rcases ch.sub a ((hm' a).mpr ⟨k, kl k i ek, ha⟩) with q | q
          · exact notA j hj h2 a z q
          · obtain ⟨u, eu⟩ := trk j hj a z
            rw [q] at eu; cases eu
      · rw [fo i h1] at ha
        by_cases h2 : j ∈ slotsOf ads
        · obtain ⟨l, el⟩ := slots_idx h2
          rw [fv l j el]
          intro z
          rcases ch.sub a ((hm' a).mpr ⟨l, kl l j el, z⟩) with q | q
          · exact notA i hi h1 a ha q
          · obtain ⟨u, eu⟩ := trk i hi a ha
            rw [q] at eu; cases eu
        · rw [fo j h2]
          exact F.apart i j hi hj hij a ha
  obtain ⟨fp', R', hmf⟩ := FF.toR
  refine ⟨fp', R', ⟨fun a u e n => ch.keep a u e fun m => ?_, fun a m => ?_, ch.there⟩, fun a m => ?_, fun a m => ?_⟩
  · obtain ⟨i, hi, mi⟩ := (inA a).mp m
    exact n ((hm a).mpr ⟨i, hin i hi, mi⟩)
  · obtain ⟨i, hi, mi⟩ := (hmf a).mp m
    rw [putBack_len] at hi
    by_cases h1 : i ∈ slotsOf ads
    · obtain ⟨k, ek⟩ := slots_idx h1
      rw [fv k i ek] at mi
      rcases ch.sub a ((hm' a).mpr ⟨k, kl k i ek, mi⟩) with q | q
      · obtain ⟨j, hj, mj⟩ := (inA a).mp q
        exact .inl ((hm a).mpr ⟨j, hin j hj, mj⟩)
      · exact .inr q
    · rw [fo i h1] at mi
      exact .inl ((hm a).mpr ⟨i, hi, mi⟩)
  · obtain ⟨i, hi, mi⟩ := (hmf a).mp m
    rw [putBack_len] at hi
    by_cases h1 : i ∈ slotsOf ads
    · obtain ⟨k, ek⟩ := slots_idx h1
      rw [fv k i ek] at mi
      exact .inl ((hm' a).mpr ⟨k, kl k i ek, mi⟩)
    · rw [fo i h1] at mi
      exact .inr ⟨(hm a).mpr ⟨i, hi, mi⟩, notA i hi h1 a mi⟩
  · obtain ⟨i, hi, mi⟩ := (inA a).mp m
    exact (hm a).mpr ⟨i, hin i hi, mi⟩
theorem EnvR.args {H : Hp} {σ : St} {env : EV nf} {fp : List Addr} (R : EnvR K nf H σ env fp) {vs : List V} {ads : List AD} (M : ArgsM K nf H σ vs ads) (nd : (slotsOf ads).Nodup) (hin : ∀ i ∈ slotsOf ads, i < env.length) :
    ∃ fpa, EnvL K nf H (vs.map some) (ads.map (resolve env)) fpa ∧ ∀ H' as fpa', as.length = ads.length → EnvL K nf H' (vs.map some) as fpa' → Ch fpa H fpa' H' → ∃ fp', EnvR K nf H' σ (putBack env ads as) fp' ∧ Ch fp H fp' H' ∧ (∀ a ∈ fp', a ∈ fpa' ∨ (a ∈ fp ∧ a ∉ fpa)) ∧ ∀ a ∈ fpa, a ∈ fp := by
  obtain ⟨fpa, RA, put⟩ := R.1.args M nd hin
  refine ⟨fpa, RA, fun H' as fpa' hl RA' ch => ?_⟩
  obtain ⟨fp', R', c, h1, h2⟩ := put H' as fpa' hl RA' ch
  exact ⟨fp', R.re R' c, c, h1, h2⟩
end
end DL

namespace DL
open PySem L2
section
variable [Anch] {X : Cx} {nf : Addr → Nat} {K : PySem.W.Frag}
/-! ### what a def promises, heap-free -/
abbrev SpD (nf : Addr → Nat) := List (SD nf) → (D → List (SD nf) → Prop) → Prop
def toSp (K : PySem.W.Frag) (nf : Addr → Nat) (n : Nat) (S : SpD nf) : Sp := fun vs H Q _ => vs.length = n ∧ ∃ as fp Qd, as.length = n ∧ EnvL K nf H (vs.map some) as fp ∧ S as Qd ∧
  ∀ v H' d as' fp', as'.length = n → Rel K nf H' v d → EnvL K nf H' (vs.map some) as' fp' → Ch fp H fp' H' → Qd d as' → Q v H'
/-- at the end of a body: the owned parameters are still in their slots -/
def BackOk : List (SD nf) → EV nf → Prop
  | [], _ => True
  | .ow v _ :: as, e :: env => ((∃ A', e = .ow v A') ∨ ∃ d, e = .fr v d) ∧ BackOk as env
  | _ :: as, _ :: env => BackOk as env
  | _ :: _, [] => False
def back : List (SD nf) → EV nf → List (SD nf)
  | [], _ => []
  | .ow _ _ :: as, e :: env => e :: back as env
  | a :: as, _ :: env => a :: back as env
  | a :: as, [] => a :: back as []
theorem back_len : ∀ (as : List (SD nf)) (env : EV nf), (back as env).length = as.length
  | [], _ => by simp [back]
  | .ow _ _ :: as, e :: env => by simp [back, back_len as env]
  | .un :: as, e :: env => by simp [back, back_len as env]
  | .fz _ :: as, e :: env => by simp [back, back_len as env]
  | .fr _ _ :: as, e :: env => by simp [back, back_len as env]
  | .ow _ _ :: as, [] => by simp [back, back_len as []]
  | .un :: as, [] => by simp [back, back_len as []]
  | .fz _ :: as, [] => by simp [back, back_len as []]
  | .fr _ _ :: as, [] => by simp [back, back_len as []]
def fnEnds (as : List (SD nf)) (Qd : D → List (SD nf) → Prop) : EndsD nf where
  nx env := BackOk as env ∧ Qd .non (back as env)
  rt d env := BackOk as env ∧ Qd d (back as env)
theorem EnvL.back {H H' : Hp} (st : Stp nf H H') : ∀ {vs : List V} {as : List (SD nf)} {fp : List Addr} {σ' : St} {env' : EV nf} {fp' : List Addr}, EnvL K nf H (vs.map some) as fp → EnvL K nf H' σ' env' fp' → BackOk as env' →
    ∃ fq, EnvL K nf H' (vs.map some) (back as env') fq ∧ ∀ a ∈ fq, a ∈ fp'
  | [], [], _, _, _, _, _, _, _ => ⟨[], by simp only [DL.back]; exact .nil, fun a m => by cases m⟩
  | [], _ :: _, _, _, _, _, R, _, _ => by cases R
  | _ :: _, [], _, _, _, _, R, _, _ => by cases R
  | v :: vs, s :: as, _, _, [], _, _, _, b => by cases s <;> simp [BackOk] at b
  | v :: vs, s :: as, _, [], _ :: _, _, _, R', _ => by cases R'
  | v :: vs, s :: as, fp, o' :: σ', e' :: env', fp', R, R', b => by
    cases R with
    | cons hs hr hd =>
      cases R' with
      | @cons _ _ _ _ f1 f2 hs' hr' hd' =>
        cases s with
        | ow w A =>
          simp only [BackOk] at b
          obtain ⟨fq, R2, sub⟩ := EnvL.back st hr hr' b.2
          have ev : v = w := Option.some.inj hs.1
          subst ev
          refine ⟨f1 ++ fq, ?_, fun a m => ?_⟩
          · simp only [DL.back, List.map_cons]
            refine .cons ?_ R2 fun a m z => hd' a m (sub a z)
            rcases b.1 with ⟨A', e⟩ | ⟨d, e⟩
            · subst e; exact ⟨rfl, hs'.2⟩
            · subst e; exact ⟨hs'.1, rfl, hs'.2.2⟩
          · rcases List.mem_append.mp m with m | m
            · exact List.mem_append_left _ m
            · exact List.mem_append_right _ (sub a m)
        | un =>
          simp only [BackOk] at b
          obtain ⟨fq, R2, sub⟩ := EnvL.back st hr hr' b
          refine ⟨[] ++ fq, ?_, fun a m => List.mem_append_right _ (sub a m)⟩
          simp only [DL.back, List.map_cons]
          exact .cons (show SlotR K nf H' (some v) [] .un from rfl) R2 fun a m => by cases m
        | fz d =>
          simp only [BackOk] at b
          obtain ⟨fq, R2, sub⟩ := EnvL.back st hr hr' b
          refine ⟨[] ++ fq, ?_, fun a m => List.mem_append_right _ (sub a m)⟩
          simp only [DL.back, List.map_cons]
          obtain ⟨_, w, ew, r⟩ := hs
          exact .cons (show SlotR K nf H' (some v) [] (.fz d) from ⟨rfl, w, ew, r.mono st⟩) R2 fun a m => by cases m
        | fr w d =>
          simp only [BackOk] at b
          obtain ⟨fq, R2, sub⟩ := EnvL.back st hr hr' b
          refine ⟨[] ++ fq, ?_, fun a m => List.mem_append_right _ (sub a m)⟩
          simp only [DL.back, List.map_cons]
          obtain ⟨_, ew, r⟩ := hs
          exact .cons (show SlotR K nf H' (some v) [] (.fr w d) from ⟨rfl, ew, r.mono st⟩) R2 fun a m => by cases m
theorem EnvL.pad {H : Hp} : ∀ {σ : St} {env : EV nf} {fp : List Addr} (m : Nat), EnvL K nf H σ env fp → EnvL K nf H (σ ++ List.replicate m none) (env ++ List.replicate m .un) fp
  | _, _, _, 0, .nil => .nil
  | _, _, _, m + 1, .nil => by
    have h : EnvL K nf H (([] : St) ++ List.replicate m none) (([] : EV nf) ++ List.replicate m .un) [] := EnvL.pad m .nil
    have h2 : EnvL K nf H (none :: (([] : St) ++ List.replicate m none)) (.un :: (([] : EV nf) ++ List.replicate m .un)) ([] ++ []) := .cons (show SlotR K nf H none [] .un from rfl) h fun a z => by cases z
    exact h2
  | _, _, _, m, .cons hs hr hd => .cons hs (EnvL.pad m hr) hd
end
section
variable {X : Cx} {nf : Addr → Nat} {K : PySem.W.Frag}
/-- THE BODY keeps the promise -/
theorem body_ok {body : List Stmt} {td : DTS nf} {N : List Str} {n : Nat} {S : SpD nf} (h : DSs X nf body td) (hn : n ≤ N.length) (hb : ∀ as Qd, as.length = n → S as Qd → td (fnEnds as Qd) (as ++ List.replicate (N.length - n) .un))
    {vs : List V} {H : Hp} {Q : VK} {E : XK} (hs : toSp X.K nf n S vs H Q E) : ∃ t, PSs X body t ∧ t { nx := fun _ H' => Q .non H', rt := Q } (start N vs) H := by
  obtain ⟨hv, as, fp, Qd, hl, R, s, k⟩ := hs
  refine ⟨_, h, as ++ List.replicate (N.length - n) .un, fp, fnEnds as Qd, ⟨?_, trivial⟩, hb as Qd hl s, ?_⟩
  · have := R.pad (N.length - n)
    rw [← hv] at this ⊢
    exact this
  · refine ⟨fun σ' H' env' fp' R' c ⟨b, q⟩ => ?_, fun v d σ' H' env' fp' r R' c ⟨b, q⟩ => ?_, fun σ' H' env' fp' R' c q => q.elim, fun σ' H' env' fp' R' c q => q.elim, fun _ _ _ _ _ _ _ _ _ _ _ q => q.elim⟩
    · obtain ⟨fq, R2, sub⟩ := EnvL.back (c.stpL (R.pad (N.length - n))) R R'.1 b
      exact k .non H' .non _ fq (by rw [back_len, hl]) .non R2 ⟨c.keep, fun a m => c.sub a (sub a m), c.there⟩ q
    · obtain ⟨fq, R2, sub⟩ := EnvL.back (c.stpL (R.pad (N.length - n))) R R'.1 b
      exact k v H' d _ fq (by rw [back_len, hl]) r R2 ⟨c.keep, fun a m => c.sub a (sub a m), c.there⟩ q

end
section
variable [Anch] {X : Cx} {nf : Addr → Nat} {K : PySem.W.Frag}
/-! ### argument lists with slots -/
abbrev DM (nf : Addr → Nat) := EV nf → (List AD → EV nf → Prop) → Prop
def liftM (K : PySem.W.Frag) (nf : Addr → Nat) (r : DM nf) : TA := fun σ H Q => ∃ env fp Qd, EnvR K nf H σ env fp ∧ r env Qd ∧ ∀ vs H' ads env' fp', ArgsM K nf H' σ vs ads → EnvR K nf H' σ env' fp' → Ch fp H fp' H' → Qd ads env' → Q vs H'
variable (X nf) in
abbrev DAM (es : List Expr) (r : DM nf) : Prop := PA X es (liftM X.K nf r)
def mNil : DM nf := fun env Q => Q [] env
def mVal (a : DT nf) (r : DM nf) : DM nf := fun env Q => a env fun d env1 => r env1 fun ads env2 => Q (.v d :: ads) env2
def isSet : SD nf → Prop
  | .un => False
  | _ => True
def mSlot (i : Nat) (r : DM nf) : DM nf := fun env Q => (∃ s, env[i]? = some s ∧ isSet s) ∧ r env fun ads env2 => Q (.o i :: ads) env2
theorem dm_nil : DAM X nf [] mNil := pa_imp pa_nil fun σ H Q ⟨env, fp, Qd, R, q, k⟩ => k [] H [] env fp .nil R Ch.refl q
theorem dm_val {e : Expr} {es : List Expr} {a : DT nf} {r : DM nf} (ha : DE X nf e a) (hr : DAM X nf es r) (hs : starEach (e :: es) X.env = (false, eval e X.env) :: starEach es X.env := by rfl) : DAM X nf (e :: es) (mVal a r) :=
  pa_imp (pa_cons ha hr hs) fun σ H Q ⟨env, fp, Qd, R, h, k⟩ => lift_run R h fun v H1 x env1 fp1 r1 R1 c1 q1 =>
    ⟨env1, fp1, _, R1, q1, fun vs H2 ads env2 fp2 r2 R2 c2 q2 => k (v :: vs) H2 (.v x :: ads) env2 fp2 (.val (r1.mono (c2.stp R1)) r2) R2 (c1.trans c2) q2⟩
theorem SlotR.val {H : Hp} {o : Option V} {fp : List Addr} {s : SD nf} (h : SlotR K nf H o fp s) (hs : isSet s) : ∃ v, o = some v := by
  cases s with
  | un => exact hs.elim
  | fz d => obtain ⟨_, v, e, _⟩ := h; exact ⟨v, e⟩
  | ow v A => exact ⟨v, h.1⟩
  | fr v d => exact ⟨v, h.2.1⟩
theorem dm_slot {i : Nat} {e : Expr} {es : List Expr} {r : DM nf} (ha : PE X e (tVar i)) (hr : DAM X nf es r) (hs : starEach (e :: es) X.env = (false, eval e X.env) :: starEach es X.env := by rfl) : DAM X nf (e :: es) (mSlot i r) :=
  pa_imp (pa_cons ha hr hs) fun σ H Q ⟨env, fp, Qd, R, ⟨⟨s, es, hset⟩, h⟩, k⟩ => by
    obtain ⟨o, fi, eo, so, _⟩ := R.at es
    obtain ⟨v, ev⟩ := so.val hset
    subst ev
    exact ⟨v, eo, env, fp, _, R, h, fun vs H2 ads env2 fp2 r2 R2 c2 q2 => k (v :: vs) H2 (.o i :: ads) env2 fp2 (.slot eo r2) R2 c2 q2⟩

/-! ### calls -/
theorem ArgsM.app {H : Hp} {σ : St} (hv : ∀ {v d}, Rel K nf H v d → Rel K nf H v d) : ∀ {vs : List V} {ads : List AD} {ws : List V} {ds : List D}, ArgsM K nf H σ vs ads → Rels K nf H ws ds → ArgsM K nf H σ (vs ++ ws) (ads ++ ds.map .v)
  | _, _, _, _, .nil, .nil => .nil
  | _, _, _, _, .nil, .cons h r => .val h (ArgsM.app hv .nil r)
  | _, _, _, _, .val h r, s => .val h (ArgsM.app hv r s)
  | _, _, _, _, .slot h r, s => .slot h (ArgsM.app hv r s)
def dCall (n : Nat) (S : SpD nf) (dds : List D) (r : DM nf) : DT nf := fun env Q => r env fun ads env1 => ads.length + dds.length = n ∧ (slotsOf (ads ++ dds.map AD.v)).Nodup ∧ (∀ i ∈ slotsOf (ads ++ dds.map AD.v), i < env1.length) ∧
  S ((ads ++ dds.map AD.v).map (resolve env1)) fun d as' => Q d (putBack env1 (ads ++ dds.map AD.v) as')
theorem sp_run {S : SpD nf} {n : Nat} {σ : St} {H : Hp} {Q : VK} {E : XK} {env : EV nf} {fp : List Addr} {vs : List V} {ads : List AD} {Qd : D → EV nf → Prop} (R : EnvR K nf H σ env fp) (M : ArgsM K nf H σ vs ads) (hn : ads.length = n)
    (nd : (slotsOf ads).Nodup) (hin : ∀ i ∈ slotsOf ads, i < env.length) (s : S (ads.map (resolve env)) fun d as' => Qd d (putBack env ads as'))
    (k : ∀ v H' d env' fp', Rel K nf H' v d → EnvR K nf H' σ env' fp' → Ch fp H fp' H' → Qd d env' → Q v H') : toSp K nf n S vs H Q E := by
  obtain ⟨fpa, RA, put⟩ := R.args M nd hin
  refine ⟨by rw [M.len, hn], _, fpa, _, by rw [List.length_map, hn], RA, s, fun v H' d as' fp' hl r R' c q => ?_⟩
  obtain ⟨fp2, R2, c2, _⟩ := put H' as' fp' (by rw [hl, hn]) R' c
  exact k v H' d _ fp2 r R2 c2 q
theorem lift_call {S : SpD nf} {n : Nat} {dvs : List V} {dds : List D} {r : DM nf} {E : XK} (hd : ∀ H, Rels K nf H dvs dds) (σ : St) (H : Hp) (Q : VK) (h : lift K nf (dCall n S dds r) σ H Q) : tCall (toSp K nf n S) dvs E (liftM K nf r) σ H Q := by
  obtain ⟨env, fp, Qd, R, h, k⟩ := h
  refine ⟨env, fp, _, R, h, fun vs H1 ads env1 fp1 r1 R1 c1 ⟨hl, nd, hin, s⟩ => ?_⟩
  exact sp_run R1 (r1.app id (hd H1)) (by rw [List.length_append, List.length_map, hl]) nd hin s fun v H' d env' fp' r' R' c' q => k v H' d env' fp' r' R' (c1.trans c') q
section
variable {CX : CXT} {k n : Nat} {f C : Addr} {fd : FuncData} {ps : List Str} {S : SpD nf} {dvs : List V} {dds : List D} {ds : List Value} {E : XK} {x m : Str} {p pos apos : Pos} {e o : Expr} {es : List Expr} {r : DM nf} {da : DT nf}
theorem de_call (F : FnOk X.prog X.w X.K X.mg X.base CX k f fd ps (toSp X.K nf n S)) (hr : Room k X.A) (hg : Gl X x) (hm : X.mg x = some (.ref f)) (hk : PySem.W.keepIn X.K (.ref f) = true) (hb : Binds X.K fd ps ds) (hd : Vals dvs ds) (hdd : ∀ H, Rels X.K nf H dvs dds) (hx : Passes CX X E)
    (ha : DAM X nf (e :: es) r) (hdb : (x == ("__debug__" : Str)) = false := by decide) (he : starEach (e :: es) X.env = (false, eval e X.env) :: starEach es X.env := by rfl) (hpl : (backTo pos (starEach es X.env)).any (·.1) = false := by rfl) :
    DE X nf (.Call (.Name x p) (e :: es) [] pos) (dCall n S dds r) := pe_imp (pe_call F hr hg hm hk hb hd hx ha hdb he hpl) (lift_call hdd)
theorem lift_m0 (σ : St) (H : Hp) (Q : List V → Hp → Prop) (h : liftM K nf mNil σ H Q) : tNil σ H Q := by
  obtain ⟨env, fp, Qd, R, q, k⟩ := h
  exact k [] H [] env fp .nil R Ch.refl q
theorem de_call0 (F : FnOk X.prog X.w X.K X.mg X.base CX k f fd ps (toSp X.K nf n S)) (hr : Room k X.A) (hg : Gl X x) (hm : X.mg x = some (.ref f)) (hk : PySem.W.keepIn X.K (.ref f) = true) (hb : Binds X.K fd ps ds) (hd : Vals dvs ds) (hdd : ∀ H, Rels X.K nf H dvs dds) (hx : Passes CX X E)
    (hdb : (x == ("__debug__" : Str)) = false := by decide) : DE X nf (.Call (.Name x p) [] [] pos) (dCall n S dds mNil) := pe_imp (pe_call0 F hr hg hm hk hb hd hx hdb) fun σ H Q h => lift_m0 σ H _ (lift_call (E := E) hdd σ H Q h)
/-! methods of frozen objects -/
theorem RelF.lookup_none : ∀ {H : Hp} {fs : List (Str × V)} {fds : List (Str × D)} {m : Str}, RelF K nf H fs fds → fds.lookup m = none → fs.lookup m = none
  | _, _, _, _, .nil, _ => rfl
  | _, _, _, m, @RelF.cons _ _ _ k v vs d ds _ r, e => by
    rw [List.lookup_cons] at e ⊢
    split at e
    · cases e
    · exact RelF.lookup_none r e
theorem RelF.lookup : ∀ {H : Hp} {fs : List (Str × V)} {fds : List (Str × D)} {m : Str} {d : D}, RelF K nf H fs fds → fds.lookup m = some d → ∃ v, fs.lookup m = some v ∧ Rel K nf H v d
  | _, _, _, _, _, .nil, e => by cases e
  | _, _, _, m, d, @RelF.cons _ _ _ k v vs d' ds h r, e => by
    rw [List.lookup_cons] at e ⊢
    split at e
    · cases e; exact ⟨v, rfl, h⟩
    · exact RelF.lookup r e
def dMeth (n : Nat) (C : Addr) (m : Str) (S : SpD nf) (dds : List D) (da : DT nf) (r : DM nf) : DT nf := fun env Q => da env fun ob env0 => ∃ fds, ob = .obj C fds ∧ fds.lookup m = none ∧ r env0 fun ads env1 => ads.length + dds.length + 1 = n ∧ (slotsOf (ads ++ dds.map AD.v)).Nodup ∧ (∀ i ∈ slotsOf (ads ++ dds.map AD.v), i < env1.length) ∧
  S ((AD.v ob :: (ads ++ dds.map AD.v)).map (resolve env1)) fun d as' => Q d (putBack env1 (AD.v ob :: (ads ++ dds.map AD.v)) as')
theorem lift_meth (hdd : ∀ H, Rels K nf H dvs dds) (σ : St) (H : Hp) (Q : VK) (h : lift K nf (dMeth n C m S dds da r) σ H Q) : tMeth C m (toSp K nf n S) dvs E (lift K nf da) (liftM K nf r) σ H Q := by
  obtain ⟨env, fp, Qd, R, h, k⟩ := h
  refine lift_run R h fun v H0 ob env0 fp0 r0 R0 c0 ⟨fds, eo, hl0, h⟩ => ?_
  subst eo
  cases r0 with
  | @obj a _ dx fs _ ha h1 h2 rf =>
    refine ⟨a, dx, fs, rfl, ha, rf.lookup_none hl0, env0, fp0, _, R0, h, fun vs H1 ads env1 fp1 r1 R1 c1 ⟨hl, nd, hin, s⟩ => ?_⟩
    have ro : Rel K nf H1 (.ref a) (.obj C fds) := (Rel.obj ha h1 h2 rf).mono (c1.stp R0)
    exact sp_run (ads := AD.v (.obj C fds) :: (ads ++ dds.map AD.v)) R1 (.val ro (r1.app id (hdd H1))) (by rw [List.length_cons, List.length_append, List.length_map]; exact hl) nd hin s fun v H' d env' fp' r' R' c' q => k v H' d env' fp' r' R' ((c0.trans c1).trans c') q
theorem de_meth {pl : Sem Bool} (he : DE X nf o da) (c : Cls X.K C) (hm : Meth X.K C m f) (F : FnOk X.prog X.w X.K X.mg X.base CX k f fd ps (toSp X.K nf n S)) (hr : Room k X.A) (hb : Binds X.K fd ps ds) (hd : Vals dvs ds) (hdd : ∀ H, Rels X.K nf H dvs dds) (hx : Passes CX X E) (ha : DAM X nf (e :: es) r)
    (hst : starEach (e :: es) X.env = (false, eval e X.env) :: starEach es X.env := by rfl) (hpl : (backTo pos (starEach es X.env)).any (·.1) = false := by rfl)
    (ht : eval (.Call (.Attribute o m apos) (e :: es) [] pos) X.env = (do
      let ov ← eval o X.env
      standAt apos.atName
      let (f, first) ← holding [ov] (getMethod ov m pl)
      callWith pos f first (backTo pos (starEach (e :: es) X.env)) (backToKw pos (keywordEach [] X.env))) := by rfl) :
    DE X nf (.Call (.Attribute o m apos) (e :: es) [] pos) (dMeth n C m S dds da r) := pe_imp (pe_meth he c hm F hr hb hd hx ha hst hpl ht) (lift_meth hdd)
theorem de_meth0 {pl : Sem Bool} (he : DE X nf o da) (c : Cls X.K C) (hm : Meth X.K C m f) (F : FnOk X.prog X.w X.K X.mg X.base CX k f fd ps (toSp X.K nf n S)) (hr : Room k X.A) (hb : Binds X.K fd ps ds) (hd : Vals dvs ds) (hdd : ∀ H, Rels X.K nf H dvs dds) (hx : Passes CX X E)
    (ht : eval (.Call (.Attribute o m apos) [] [] pos) X.env = (do
      let ov ← eval o X.env
      standAt apos.atName
      let (f, first) ← holding [ov] (getMethod ov m pl)
      callWith pos f first (backTo pos (starEach [] X.env)) (backToKw pos (keywordEach [] X.env))) := by rfl) :
    DE X nf (.Call (.Attribute o m apos) [] [] pos) (dMeth n C m S dds da mNil) := pe_imp (pe_meth0 he c hm F hr hb hd hx ht) fun σ H Q h => by
  obtain ⟨env, fp, Qd, R, h, k⟩ := h
  refine lift_run R h fun v H0 ob env0 fp0 r0 R0 c0 ⟨fds, eo, hl0, h⟩ => ?_
  subst eo
  cases r0 with
  | @obj a _ dx fs _ ha h1 h2 rf =>
    refine ⟨a, dx, fs, rfl, ha, rf.lookup_none hl0, ?_⟩
    obtain ⟨hl, nd, hin, s⟩ := h
    have hl' : ([] : List AD).length + dds.length + 1 = n := hl
    exact sp_run (E := E) (ads := AD.v (.obj C fds) :: ([] ++ dds.map AD.v)) R0 (.val (.obj ha h1 h2 rf) ((ArgsM.nil).app id (hdd H0))) (by rw [List.length_cons, List.length_append, List.length_map]; exact hl') nd hin s fun v H' d env' fp' r' R' c' q => k v H' d env' fp' r' R' (c0.trans c') q
/-! a field of a frozen object -/
def dFld (C : Addr) (m : Str) (da : DT nf) : DT nf := fun env Q => da env fun ob env1 => ∃ fds d, ob = .obj C fds ∧ fds.lookup m = some d ∧ Q d env1
theorem de_fld (he : DE X nf o da) (c : Cls X.K C) (hn : NoAttr X.K C m) (hb : attributeBase o m X.env (eval o X.env) = eval o X.env := by rfl) : DE X nf (.Attribute o m pos) (dFld C m da) := pe_imp (pe_fld he hb) fun σ H Q h => by
  obtain ⟨env, fp, Qd, R, h, k⟩ := h
  refine lift_run R h fun v H1 ob env1 fp1 r1 R1 c1 ⟨fds, d, eo, hl, q⟩ => ?_
  subst eo
  cases r1 with
  | @obj a _ dx fs _ ha h1 h2 rf =>
    obtain ⟨v, ev, rv⟩ := rf.lookup hl
    exact ⟨a, C, dx, fs, v, rfl, ha, c, hn, ev, k v H1 d env1 fp1 rv R1 c1 q⟩
end
end
end DL

namespace DL
open PySem L2
section
variable [Anch] {X : Cx} {nf : Addr → Nat} {K : PySem.W.Frag}
/-! ### operations: data in, data out -/
/-- two ints -/
def fI (C : Int → Int → Prop) (g : Int → Int → D) : D → D → D → Prop := fun x y z => ∃ i j, x = .int i ∧ y = .int j ∧ C i j ∧ z = g i j
def fI0 (g : Int → Int → D) : D → D → D → Prop := fun x y z => ∃ i j, x = .int i ∧ y = .int j ∧ z = g i j
theorem od_I {C : Int → Int → Prop} {g : Int → Int → Int} : OpD K nf (rI C fun i j => .int (g i j)) (fI C fun i j => .int (g i j)) := by
  rintro H v w x y z r1 r2 ⟨i, j, rfl, rfl, hc, rfl⟩ Q q
  exact ⟨i, j, rel_int r1, rel_int r2, hc, q _ H (.int _) Xt.refl⟩
theorem od_I0 {g : Int → Int → Int} : OpD K nf (rI0 fun i j => .int (g i j)) (fI0 fun i j => .int (g i j)) := by
  rintro H v w x y z r1 r2 ⟨i, j, rfl, rfl, rfl⟩ Q q
  exact ⟨i, j, rel_int r1, rel_int r2, q _ H (.int _) Xt.refl⟩
theorem od_B0 {g : Int → Int → Bool} : OpD K nf (rI0 fun i j => .bl (g i j)) (fI0 fun i j => .bl (g i j)) := by
  rintro H v w x y z r1 r2 ⟨i, j, rfl, rfl, rfl⟩ Q q
  exact ⟨i, j, rel_int r1, rel_int r2, q _ H (.bl _) Xt.refl⟩
section
variable {a b : Expr} {pos : Pos} {da db : DT nf}
def dAdd (da db : DT nf) : DT nf := dOp (fI0 fun i j => .int (i + j)) da db
def dSub (da db : DT nf) : DT nf := dOp (fI0 fun i j => .int (i - j)) da db
def dMul (da db : DT nf) : DT nf := dOp (fI CMul fun i j => .int (i * j)) da db
def dMod (da db : DT nf) : DT nf := dOp (fI (fun _ j => 0 < j) fun i j => .int (i % j)) da db
def dDiv (da db : DT nf) : DT nf := dOp (fI CDivW fun i j => .int (i / j)) da db
def dPow (da db : DT nf) : DT nf := dOp (fI CPow fun i j => .int (i ^ j.toNat)) da db
theorem de_add (ha : DE X nf a da) (hb : DE X nf b db) : DE X nf (.BinOp a .Add b pos) (dAdd da db) := de_op op_add od_I0 ha hb
theorem de_sub (ha : DE X nf a da) (hb : DE X nf b db) : DE X nf (.BinOp a .Sub b pos) (dSub da db) := de_op op_sub od_I0 ha hb
theorem de_mul (ha : DE X nf a da) (hb : DE X nf b db) : DE X nf (.BinOp a .Mult b pos) (dMul da db) := de_op op_mul od_I ha hb
theorem de_mod (ha : DE X nf a da) (hb : DE X nf b db) : DE X nf (.BinOp a .Mod b pos) (dMod da db) := de_op op_mod od_I ha hb
theorem de_div (ha : DE X nf a da) (hb : DE X nf b db) : DE X nf (.BinOp a .FloorDiv b pos) (dDiv da db) := de_op op_fdivW od_I ha hb
theorem de_pow (ha : DE X nf a da) (hb : DE X nf b db) : DE X nf (.BinOp a .Pow b pos) (dPow da db) := de_op op_pow od_I ha hb
def dCmp (g : Int → Int → Bool) (da db : DT nf) : DT nf := dOp (fI0 fun i j => .bl (g i j)) da db
abbrev cLt : Int → Int → Bool := fun i j => decide (i < j)
abbrev cLe : Int → Int → Bool := fun i j => decide (i ≤ j)
abbrev cGt : Int → Int → Bool := fun i j => decide (j < i)
abbrev cGe : Int → Int → Bool := fun i j => decide (j ≤ i)
theorem de_lt (ha : DE X nf a da) (hb : DE X nf b db) : DE X nf (.Compare a [.Lt] [b] pos) (dCmp cLt da db) := de_cmp op_lt od_B0 ha hb (nomark _)
theorem de_le (ha : DE X nf a da) (hb : DE X nf b db) : DE X nf (.Compare a [.LtE] [b] pos) (dCmp cLe da db) := de_cmp op_le od_B0 ha hb (nomark _)
theorem de_gt (ha : DE X nf a da) (hb : DE X nf b db) : DE X nf (.Compare a [.Gt] [b] pos) (dCmp cGt da db) := de_cmp op_gt od_B0 ha hb (nomark _)
theorem de_ge (ha : DE X nf a da) (hb : DE X nf b db) : DE X nf (.Compare a [.GtE] [b] pos) (dCmp cGe da db) := de_cmp op_ge od_B0 ha hb (nomark _)
theorem dc_lt (ha : DE X nf a da) (hb : DE X nf b db) : DC X nf (.Compare a [.Lt] [b] pos) (dBv (dCmp cLt da db)) := dc_cmp op_lt od_B0 ha hb (nomark _)
theorem dc_le (ha : DE X nf a da) (hb : DE X nf b db) : DC X nf (.Compare a [.LtE] [b] pos) (dBv (dCmp cLe da db)) := dc_cmp op_le od_B0 ha hb (nomark _)
theorem dc_gt (ha : DE X nf a da) (hb : DE X nf b db) : DC X nf (.Compare a [.Gt] [b] pos) (dBv (dCmp cGt da db)) := dc_cmp op_gt od_B0 ha hb (nomark _)
theorem dc_ge (ha : DE X nf a da) (hb : DE X nf b db) : DC X nf (.Compare a [.GtE] [b] pos) (dBv (dCmp cGe da db)) := dc_cmp op_ge od_B0 ha hb (nomark _)
end
/-! scalars: None, bools, ints, texts -/
def eqS : D → D → Option Bool
  | .non, .non => some true | .non, .int _ => some false | .int _, .non => some false | .non, .bl _ => some false | .bl _, .non => some false | .non, .str _ => some false | .str _, .non => some false
  | .int i, .int j => some (decide (i = j)) | .bl i, .bl j => some (decide (i = j)) | .str i, .str j => some (decide (i = j))
  | .int _, .str _ => some false | .str _, .int _ => some false | .bl _, .str _ => some false | .str _, .bl _ => some false
  | _, _ => none
def fEq (neg : Bool) : D → D → D → Prop := fun x y z => ∃ b, eqS x y = some b ∧ z = .bl (if neg then !b else b)
theorem scal_of {H : Hp} {v w : V} {x y : D} {b : Bool} (r1 : Rel K nf H v x) (r2 : Rel K nf H w y) (e : eqS x y = some b) : scal v w = true ∧ decide (v = w) = b := by
  cases r1 <;> cases r2 <;> simp [eqS] at e <;> subst e <;> simp [scal]
theorem od_eq : OpD K nf rEq (fEq false) := by
  rintro H v w x y z r1 r2 ⟨b, e, rfl⟩ Q q
  obtain ⟨h1, h2⟩ := scal_of r1 r2 e
  exact ⟨h1, by rw [h2]; exact q _ H (.bl _) Xt.refl⟩
theorem od_ne : OpD K nf rNe (fEq true) := by
  rintro H v w x y z r1 r2 ⟨b, e, rfl⟩ Q q
  obtain ⟨h1, h2⟩ := scal_of r1 r2 e
  exact ⟨h1, by rw [h2]; exact q _ H (.bl _) Xt.refl⟩
section
variable {a b : Expr} {pos : Pos} {da db : DT nf}
def dEq (neg : Bool) (da db : DT nf) : DT nf := dOp (fEq neg) da db
theorem de_eq (ha : DE X nf a da) (hb : DE X nf b db) : DE X nf (.Compare a [.Eq] [b] pos) (dEq false da db) := de_cmp op_eq od_eq ha hb (nomark _)
theorem de_ne (ha : DE X nf a da) (hb : DE X nf b db) : DE X nf (.Compare a [.NotEq] [b] pos) (dEq true da db) := de_cmp op_ne od_ne ha hb (nomark _)
theorem dc_eq (ha : DE X nf a da) (hb : DE X nf b db) : DC X nf (.Compare a [.Eq] [b] pos) (dBv (dEq false da db)) := dc_cmp op_eq od_eq ha hb (nomark _)
theorem dc_ne (ha : DE X nf a da) (hb : DE X nf b db) : DC X nf (.Compare a [.NotEq] [b] pos) (dBv (dEq true da db)) := dc_cmp op_ne od_ne ha hb (nomark _)
end
/-! nested data: None, bools, ints, texts, lists, tuples -/
mutual
def pyOf : D → Option PyData
  | .non => some .none
  | .bl b => some (.bool b)
  | .int i => some (.int i)
  | .str s => some (.str s)
  | .lst xs => (pyOfs xs).map .list
  | .tup xs => (pyOfs xs).map .tuple
  | _ => none
def pyOfs : List D → Option (List PyData)
  | [] => some []
  | x :: xs => (pyOf x).bind fun d => (pyOfs xs).map fun ds => d :: ds
end
mutual
theorem dp_of {H : Hp} : ∀ {v : V} {x : D} {d : PyData}, Rel K nf H v x → pyOf x = some d → Dp K H v d
  | _, _, _, .non, e => by simp only [pyOf, Option.some.injEq] at e; subst e; exact .non
  | _, _, _, .bl b, e => by simp only [pyOf, Option.some.injEq] at e; subst e; exact .bl b
  | _, _, _, .int i, e => by simp only [pyOf, Option.some.injEq] at e; subst e; exact .int i
  | _, _, _, .str s, e => by simp only [pyOf, Option.some.injEq] at e; subst e; exact .str s
  | _, _, _, .ty n, e => by simp only [pyOf] at e; cases e
  | _, _, _, .cls a, e => by simp only [pyOf] at e; cases e
  | _, _, _, .dct h r, e => by simp only [pyOf] at e; cases e
  | _, _, _, .obj h n l r, e => by simp only [pyOf] at e; cases e
  | _, _, _, .scr h, e => by simp only [pyOf] at e; cases e
  | _, _, _, .exc h r, e => by simp only [pyOf] at e; cases e
  | _, _, _, @Rel.tup _ _ _ a vs ds h r, e => by
    simp only [pyOf] at e
    cases q : pyOfs ds with
    | none => rw [q] at e; cases e
    | some ps => rw [q] at e; simp only [Option.map_some, Option.some.injEq] at e; subst e; exact .tup h (dps_of r q)
  | _, _, _, @Rel.lst _ _ _ a vs ds h r, e => by
    simp only [pyOf] at e
    cases q : pyOfs ds with
    | none => rw [q] at e; cases e
    | some ps => rw [q] at e; simp only [Option.map_some, Option.some.injEq] at e; subst e; exact .lst h.sq (dps_of r q)
theorem dps_of {H : Hp} : ∀ {vs : List V} {xs : List D} {ds : List PyData}, Rels K nf H vs xs → pyOfs xs = some ds → DpAll K H vs ds
  | _, _, _, .nil, e => by simp only [pyOfs, Option.some.injEq] at e; subst e; exact .nil
  | _, _, _, @Rels.cons _ _ _ v vs d ds h r, e => by
    simp only [pyOfs] at e
    cases q : pyOf d with
    | none => rw [q] at e; cases e
    | some p =>
      cases q2 : pyOfs ds with
      | none => rw [q, q2] at e; cases e
      | some ps => rw [q, q2] at e; simp only [Option.bind_some, Option.map_some, Option.some.injEq] at e; subst e; exact .cons (dp_of h q) (dps_of r q2)
end
def fEqD (neg : Bool) : D → D → D → Prop := fun x y z => ∃ d e, pyOf x = some d ∧ pyOf y = some e ∧ SeqAt.shaped d = true ∧ SeqAt.shaped e = true ∧ z = .bl (if neg then !PyData.eqv d e else PyData.eqv d e)
theorem od_eqD : OpD K nf (rEqD K) (fEqD false) := by
  rintro H v w x y z r1 r2 ⟨d, e, h1, h2, s1, s2, rfl⟩ Q q
  exact ⟨d, e, dp_of r1 h1, dp_of r2 h2, s1, s2, q _ H (.bl _) Xt.refl⟩
theorem od_neD : OpD K nf (rNeD K) (fEqD true) := by
  rintro H v w x y z r1 r2 ⟨d, e, h1, h2, s1, s2, rfl⟩ Q q
  exact ⟨d, e, dp_of r1 h1, dp_of r2 h2, s1, s2, q _ H (.bl _) Xt.refl⟩
section
variable {a b : Expr} {pos : Pos} {da db : DT nf}
def dEqD (neg : Bool) (da db : DT nf) : DT nf := dOp (fEqD neg) da db
theorem de_eqD (hu : X.A.units + 64 < cLine) (ha : DE X nf a da) (hb : DE X nf b db) : DE X nf (.Compare a [.Eq] [b] pos) (dEqD false da db) := de_cmp (op_eqD hu) od_eqD ha hb (nomark _)
theorem de_neD (hu : X.A.units + 64 < cLine) (ha : DE X nf a da) (hb : DE X nf b db) : DE X nf (.Compare a [.NotEq] [b] pos) (dEqD true da db) := de_cmp (op_neD hu) od_neD ha hb (nomark _)
theorem dc_eqD (hu : X.A.units + 64 < cLine) (ha : DE X nf a da) (hb : DE X nf b db) : DC X nf (.Compare a [.Eq] [b] pos) (dBv (dEqD false da db)) := dc_cmp (op_eqD hu) od_eqD ha hb (nomark _)
theorem dc_neD (hu : X.A.units + 64 < cLine) (ha : DE X nf a da) (hb : DE X nf b db) : DC X nf (.Compare a [.NotEq] [b] pos) (dBv (dEqD true da db)) := dc_cmp (op_neD hu) od_neD ha hb (nomark _)
end
/-! is None -/
section
variable {a : Expr} {pos : Pos} {da : DT nf}
def isNon : D → Bool
  | .non => true
  | _ => false
def dIsN (da : DT nf) : DT nf := fun env Q => da env fun x env1 => Q (.bl (isNon x)) env1
theorem dc_isN {j pos'} (ha : DE X nf a da) : DC X nf (.Compare a [.Is] [.Constant .none j pos'] pos) (dBv (dIsN da)) := pt_imp (pt_cmp (pc_isN ha)) fun σ H Q h => by
  obtain ⟨env, fp, Qd, R, h, k⟩ := h
  refine lift_run R h fun v H1 x env1 fp1 r1 R1 c1 ⟨b, e, q⟩ => ?_
  refine ⟨b, ?_, k b H1 env1 fp1 R1 c1 q⟩
  have e' : isNon x = b := by cases e; rfl
  subst e'
  cases r1 <;> simp [isNon]
end
/-! texts -/
def fCatS : D → D → D → Prop := fun x y z => ∃ i j, x = .str i ∧ y = .str j ∧ i.length + j.length ≤ 1000000 ∧ z = .str (i ++ j)
theorem od_catS : OpD K nf (fun x y H Q => ∃ i j, x = .str i ∧ y = .str j ∧ i.length + j.length ≤ sizeLine ∧ Q (.str (i ++ j)) H) fCatS := by
  rintro H v w x y z r1 r2 ⟨i, j, rfl, rfl, hc, rfl⟩ Q q
  exact ⟨i, j, rel_str r1, rel_str r2, sz_ok hc, q _ H (.str _) Xt.refl⟩
section
variable {a b : Expr} {pos : Pos} {da db : DT nf}
def dCatS (da db : DT nf) : DT nf := dOp fCatS da db
theorem de_catS (ha : DE X nf a da) (hb : DE X nf b db) : DE X nf (.BinOp a .Add b pos) (dCatS da db) := de_op op_add_str od_catS ha hb
/-! places -/
def fIxL : D → D → D → Prop := fun x y z => ∃ xs i, x = .lst xs ∧ y = .int i ∧ atI xs i = some z
def fIxT : D → D → D → Prop := fun x y z => ∃ xs i, x = .tup xs ∧ y = .int i ∧ atI xs i = some z
def fIxS : D → D → D → Prop := fun x y z => ∃ s i c, x = .str s ∧ y = .int i ∧ s.length ≤ 1000000 ∧ atI s.cps.toList i = some c ∧ z = .str ⟨#[c]⟩
theorem Rels.atI {H : Hp} {vs : List V} {xs : List D} {i : Int} {z : D} (r : Rels K nf H vs xs) (e : L2.atI xs i = some z) : ∃ v, L2.atI vs i = some v ∧ Rel K nf H v z := by
  unfold L2.atI at e ⊢
  rw [r.length]
  cases q : ixN xs.length i with
  | none => rw [q] at e; cases e
  | some j =>
    rw [q] at e
    simp only [Option.bind_some] at e ⊢
    exact r.get e
theorem od_ixL : OpD K nf (rIxL K) fIxL := by
  rintro H v w x y z r1 r2 ⟨xs, i, rfl, rfl, e⟩ Q q
  cases r1 with
  | lst h r =>
    obtain ⟨u, e2, r3⟩ := r.atI e
    exact ⟨_, _, i, u, rfl, rel_int r2, h.sq, e2, q u H r3 Xt.refl⟩
theorem od_ixT : OpD K nf (rIxT K) fIxT := by
  rintro H v w x y z r1 r2 ⟨xs, i, rfl, rfl, e⟩ Q q
  cases r1 with
  | tup h r =>
    obtain ⟨u, e2, r3⟩ := r.atI e
    exact ⟨_, _, i, u, rfl, rel_int r2, h, e2, q u H r3 Xt.refl⟩
theorem od_ixS : OpD K nf rIxS fIxS := by
  rintro H v w x y z r1 r2 ⟨s, i, c, rfl, rfl, hl, e, rfl⟩ Q q
  exact ⟨s, i, c, rel_str r1, rel_int r2, sz_ok hl, e, q _ H (.str _) Xt.refl⟩
def dIxL (da db : DT nf) : DT nf := dOp fIxL da db
def dIxT (da db : DT nf) : DT nf := dOp fIxT da db
def dIxS (da db : DT nf) : DT nf := dOp fIxS da db
theorem de_ixL (ha : DE X nf a da) (hb : DE X nf b db) (hs : PlainIx b := by exact fun _ _ => rfl) : DE X nf (.Subscript a b pos) (dIxL da db) := de_ix ix_list od_ixL ha hb hs
theorem de_ixT (ha : DE X nf a da) (hb : DE X nf b db) (hs : PlainIx b := by exact fun _ _ => rfl) : DE X nf (.Subscript a b pos) (dIxT da db) := de_ix ix_tup od_ixT ha hb hs
theorem de_ixS (ha : DE X nf a da) (hb : DE X nf b db) (hs : PlainIx b := by exact fun _ _ => rfl) : DE X nf (.Subscript a b pos) (dIxS da db) := de_ix ix_str od_ixS ha hb hs
/-! in: flat items -/
def flatD : D → Option V
  | .non => some .non
  | .bl b => some (.bl b)
  | .int i => some (.int i)
  | .str s => some (.str s)
  | _ => none
def flatDs : List D → Option (List V)
  | [] => some []
  | x :: xs => (flatD x).bind fun v => (flatDs xs).map fun vs => v :: vs
theorem flat_of {H : Hp} {v : V} {x : D} {u : V} (r : Rel K nf H v x) (e : flatD x = some u) : v = u ∧ flatV v = true := by
  cases r <;> simp only [flatD] at e <;> cases e <;> exact ⟨rfl, rfl⟩
theorem flats_of {H : Hp} : ∀ {vs : List V} {xs : List D} {us : List V}, Rels K nf H vs xs → flatDs xs = some us → vs = us ∧ vs.all flatV = true
  | _, _, _, .nil, e => by simp only [flatDs, Option.some.injEq] at e; subst e; exact ⟨rfl, rfl⟩
  | _, _, _, @Rels.cons _ _ _ v vs d ds h r, e => by
    simp only [flatDs] at e
    cases q : flatD d with
    | none => rw [q] at e; cases e
    | some p =>
      cases q2 : flatDs ds with
      | none => rw [q, q2] at e; cases e
      | some ps =>
        rw [q, q2] at e
        simp only [Option.bind_some, Option.map_some, Option.some.injEq] at e
        subst e
        obtain ⟨e1, f1⟩ := flat_of h q
        obtain ⟨e2, f2⟩ := flats_of r q2
        subst e1 e2
        exact ⟨rfl, by simp [f1, f2]⟩
def fIn (neg : Bool) : D → D → D → Prop := fun x y z => ∃ xs v us, (y = .lst xs ∨ y = .tup xs) ∧ flatD x = some v ∧ flatDs xs = some us ∧ z = .bl (if neg then !inV v us else inV v us)
theorem od_in {neg : Bool} : OpD K nf (rIn K neg) (fIn neg) := by
  rintro H v w x y z r1 r2 ⟨xs, v', us, hy, e1, e2, rfl⟩ Q q
  obtain ⟨ev, fv⟩ := flat_of r1 e1
  subst ev
  rcases hy with rfl | rfl
  · cases r2 with
    | lst h r =>
      obtain ⟨eu, fu⟩ := flats_of r e2
      subst eu
      exact ⟨_, _, rfl, .inl h.sq, fv, fu, q _ H (.bl _) Xt.refl⟩
  · cases r2 with
    | tup h r =>
      obtain ⟨eu, fu⟩ := flats_of r e2
      subst eu
      exact ⟨_, _, rfl, .inr h, fv, fu, q _ H (.bl _) Xt.refl⟩
def dIn (neg : Bool) (da db : DT nf) : DT nf := dOp (fIn neg) da db
theorem de_in (ha : DE X nf a da) (hb : DE X nf b db) (hm : behindInMarks .In b = false := by rfl) : DE X nf (.Compare a [.In] [b] pos) (dIn false da db) := de_cmp op_in_seq od_in ha hb hm
theorem de_notin (ha : DE X nf a da) (hb : DE X nf b db) (hm : behindInMarks .NotIn b = false := by rfl) : DE X nf (.Compare a [.NotIn] [b] pos) (dIn true da db) := de_cmp op_notIn_seq od_in ha hb hm
theorem dc_in (ha : DE X nf a da) (hb : DE X nf b db) (hm : behindInMarks .In b = false := by rfl) : DC X nf (.Compare a [.In] [b] pos) (dBv (dIn false da db)) := dc_cmp op_in_seq od_in ha hb hm
theorem dc_notin (ha : DE X nf a da) (hb : DE X nf b db) (hm : behindInMarks .NotIn b = false := by rfl) : DC X nf (.Compare a [.NotIn] [b] pos) (dBv (dIn true da db)) := dc_cmp op_notIn_seq od_in ha hb hm
/-- one sign in a text -/
def fInS : D → D → D → Prop := fun x y z => ∃ (c : Nat) (s : Str), x = .str ⟨#[c]⟩ ∧ y = .str s ∧ z = .bl (decide (c ∈ s.cps.toList))
theorem od_inS : OpD K nf (fun x y H Q => ∃ (c : Nat) (z : Str), x = .str ⟨#[c]⟩ ∧ y = .str z ∧ Q (.bl (decide (c ∈ z.cps.toList))) H) fInS := by
  rintro H v w x y z r1 r2 ⟨c, s, rfl, rfl, rfl⟩ Q q
  exact ⟨c, s, rel_str r1, rel_str r2, q _ H (.bl _) Xt.refl⟩
def dInS (da db : DT nf) : DT nf := dOp fInS da db
theorem de_inS (ha : DE X nf a da) (hb : DE X nf b db) (hm : behindInMarks .In b = false := by rfl) : DE X nf (.Compare a [.In] [b] pos) (dInS da db) := de_cmp op_in_sign od_inS ha hb hm
theorem dc_inS (ha : DE X nf a da) (hb : DE X nf b db) (hm : behindInMarks .In b = false := by rfl) : DC X nf (.Compare a [.In] [b] pos) (dBv (dInS da db)) := dc_cmp op_in_sign od_inS ha hb hm
end
end
end DL

namespace DL
open PySem L2
section
variable [Anch] {X : Cx} {nf : Addr → Nat} {K : PySem.W.Frag}
/-! ### the list of a slot, owned or frozen, read in place -/
def lsAt (K : PySem.W.Frag) (env : EV nf) (i : Nat) (xs : List D) : Prop := env[i]? = some (.fz (.lst xs)) ∨ ∃ v, env[i]? = some (.ow v (lstA K nf xs))
theorem EnvR.peek {H : Hp} {σ : St} {env : EV nf} {fp : List Addr} (R : EnvR K nf H σ env fp) {i : Nat} {xs : List D} (h : lsAt K env i xs) : ∃ p vs, σ[i]? = some (some (.ref p)) ∧ SqL K H p vs ∧ Rels K nf H vs xs := by
  rcases h with e | ⟨v, e⟩
  · obtain ⟨o, fi, e1, ⟨_, v, ev, r⟩, _⟩ := R.at e
    subst ev
    cases r with
    | lst h r => exact ⟨_, _, e1, h.sq, r⟩
  · obtain ⟨p, vs, ev, es, hp, r, _⟩ := R.lstAt e
    exact ⟨p, vs, es, SqL.of hp, r⟩
section
variable {a b l : Expr} {pos : Pos} {da db : DT nf} {i : Nat}
/-- xs[e] -/
def dIxV (K : PySem.W.Frag) (i : Nat) (db : DT nf) : DT nf := fun env Q => (∃ xs, lsAt K env i xs) ∧ db env fun y env1 => ∃ xs j z, lsAt K env1 i xs ∧ y = .int j ∧ atI xs j = some z ∧ Q z env1
theorem de_ixV (hl : PE X l (tVar i)) (hb : DE X nf b db) (hs : PlainIx b := by exact fun _ _ => rfl) : DE X nf (.Subscript l b pos) (dIxV X.K i db) := pe_imp (pe_ix ix_list hl hb hs) fun σ H Q ⟨env, fp, Qd, R, ⟨⟨xs0, h0⟩, h⟩, k⟩ => by
  obtain ⟨p, vs, es, _, _⟩ := R.peek h0
  refine ⟨_, es, lift_run R h fun w H1 y env1 fp1 r1 R1 c1 ⟨xs, j, z, h1, ey, ez, q⟩ => ?_⟩
  subst ey
  obtain ⟨p', vs', es', sq, rr⟩ := R1.peek h1
  rw [es] at es'
  cases es'
  obtain ⟨u, e2, r3⟩ := rr.atI ez
  exact ⟨p, vs', j, u, rfl, rel_int r1, sq, e2, k u H1 z env1 fp1 r3 R1 c1 q⟩
/-- e in xs -/
def dInV (K : PySem.W.Frag) (neg : Bool) (da : DT nf) (i : Nat) : DT nf := fun env Q => da env fun x env1 => ∃ xs v us, lsAt K env1 i xs ∧ flatD x = some v ∧ flatDs xs = some us ∧ Q (.bl (if neg then !inV v us else inV v us)) env1
theorem lift_inV {neg : Bool} (σ : St) (H : Hp) (Q : VK) (h : lift K nf (dInV K neg da i) σ H Q) : tOp (rIn K neg) (lift K nf da) (tVar i) σ H Q := by
  obtain ⟨env, fp, Qd, R, h, k⟩ := h
  refine lift_run R h fun w H1 x env1 fp1 r1 R1 c1 ⟨xs, v, us, h1, e1, e2, q⟩ => ?_
  obtain ⟨p, vs, es, sq, rr⟩ := R1.peek h1
  obtain ⟨ev, fv⟩ := flat_of r1 e1
  obtain ⟨eu, fu⟩ := flats_of rr e2
  subst ev eu
  exact ⟨_, es, p, vs, rfl, .inl sq, fv, fu, k _ H1 _ env1 fp1 (.bl _) R1 c1 q⟩
theorem lift_B2 {t : TE} {td : DT nf} (hi : ∀ σ H Q, lift K nf td σ H Q → t σ H Q) (σ : St) (H : Hp) (Q : Bool → Hp → Prop) (h : liftB K nf (dBv td) σ H Q) : tB t σ H Q := by
  obtain ⟨env, fp, Qd, R, h, k⟩ := h
  refine hi σ H _ (lift_run R h fun v H1 x env1 fp1 r1 R1 c1 ⟨b, e, q⟩ => ?_)
  subst e
  exact ⟨b, rel_bl r1, k b H1 env1 fp1 R1 c1 q⟩
theorem pt_cmpB {op : CmpOp} {r : R2} {ta tb : TE} (ho : OpR X (compareOp op) r) (ha : PE X a ta) (hb : PE X b tb) (hm : behindInMarks op b = false) : PT X (.Compare a [op] [b] pos) (tB (tOp r ta tb)) := pt_imp (pt_cmpR ho ha hb hm) fun σ H Q h => h
theorem de_inV (ha : DE X nf a da) (hl : PE X l (tVar i)) (hm : behindInMarks .In l = false := by rfl) : DE X nf (.Compare a [.In] [l] pos) (dInV X.K false da i) := pe_imp (pe_cmpR op_in_seq ha hl hm) lift_inV
theorem de_notinV (ha : DE X nf a da) (hl : PE X l (tVar i)) (hm : behindInMarks .NotIn l = false := by rfl) : DE X nf (.Compare a [.NotIn] [l] pos) (dInV X.K true da i) := pe_imp (pe_cmpR op_notIn_seq ha hl hm) lift_inV
theorem dc_inV (ha : DE X nf a da) (hl : PE X l (tVar i)) (hm : behindInMarks .In l = false := by rfl) : DC X nf (.Compare a [.In] [l] pos) (dBv (dInV X.K false da i)) := pt_imp (pt_cmpB op_in_seq ha hl hm) (lift_B2 lift_inV)
theorem dc_notinV (ha : DE X nf a da) (hl : PE X l (tVar i)) (hm : behindInMarks .NotIn l = false := by rfl) : DC X nf (.Compare a [.NotIn] [l] pos) (dBv (dInV X.K true da i)) := pt_imp (pt_cmpB op_notIn_seq ha hl hm) (lift_B2 lift_inV)
/-- xs == e, xs != e, nested data -/
def dEqV (K : PySem.W.Frag) (neg : Bool) (i : Nat) (db : DT nf) : DT nf := fun env Q => (∃ xs, lsAt K env i xs) ∧ db env fun y env1 => ∃ xs d e, lsAt K env1 i xs ∧ pyOf (.lst xs) = some d ∧ pyOf y = some e ∧ SeqAt.shaped d = true ∧ SeqAt.shaped e = true ∧ Q (.bl (if neg then !PyData.eqv d e else PyData.eqv d e)) env1
theorem lift_eqV {neg : Bool} {r : R2} (hr : ∀ x y H Q, (∃ d e, Dp K H x d ∧ Dp K H y e ∧ SeqAt.shaped d = true ∧ SeqAt.shaped e = true ∧ Q (V.bl (if neg then !PyData.eqv d e else PyData.eqv d e)) H) → r x y H Q) (σ : St) (H : Hp) (Q : VK) (h : lift K nf (dEqV K neg i db) σ H Q) : tOp r (tVar i) (lift K nf db) σ H Q := by
  obtain ⟨env, fp, Qd, R, ⟨⟨xs0, h0⟩, h⟩, k⟩ := h
  obtain ⟨p, vs, es, _, _⟩ := R.peek h0
  refine ⟨_, es, lift_run R h fun w H1 y env1 fp1 r1 R1 c1 ⟨xs, d, e, h1, e1, e2, s1, s2, q⟩ => ?_⟩
  obtain ⟨p', vs', es', sq, rr⟩ := R1.peek h1
  rw [es] at es'
  cases es'
  simp only [pyOf] at e1
  cases q2 : pyOfs xs with
  | none => rw [q2] at e1; cases e1
  | some ps =>
    rw [q2] at e1
    simp only [Option.map_some, Option.some.injEq] at e1
    subst e1
    exact hr _ _ _ _ ⟨_, e, .lst sq (dps_of rr q2), dp_of r1 e2, s1, s2, k _ H1 _ env1 fp1 (.bl _) R1 c1 q⟩
theorem de_eqV (hu : X.A.units + 64 < cLine) (hl : PE X l (tVar i)) (hb : DE X nf b db) : DE X nf (.Compare l [.Eq] [b] pos) (dEqV X.K false i db) := pe_imp (pe_cmpR (op_eqD hu) hl hb (nomark _)) (lift_eqV fun x y H Q h => h)
theorem de_neV (hu : X.A.units + 64 < cLine) (hl : PE X l (tVar i)) (hb : DE X nf b db) : DE X nf (.Compare l [.NotEq] [b] pos) (dEqV X.K true i db) := pe_imp (pe_cmpR (op_neD hu) hl hb (nomark _)) (lift_eqV fun x y H Q h => h)
theorem dc_eqV (hu : X.A.units + 64 < cLine) (hl : PE X l (tVar i)) (hb : DE X nf b db) : DC X nf (.Compare l [.Eq] [b] pos) (dBv (dEqV X.K false i db)) := pt_imp (pt_cmpB (op_eqD hu) hl hb (nomark _)) (lift_B2 (lift_eqV fun x y H Q h => h))
theorem dc_neV (hu : X.A.units + 64 < cLine) (hl : PE X l (tVar i)) (hb : DE X nf b db) : DC X nf (.Compare l [.NotEq] [b] pos) (dBv (dEqV X.K true i db)) := pt_imp (pt_cmpB (op_neD hu) hl hb (nomark _)) (lift_B2 (lift_eqV fun x y H Q h => h))
/-- len(xs) -/
def dLenV (K : PySem.W.Frag) (i : Nat) : DT nf := fun env Q => ∃ xs, lsAt K env i xs ∧ Q (.int xs.length) env
theorem de_lenV {p : Pos} (hg : Gl X "len") (hm : X.mg "len" = none) (hl : PE X l (tVar i)) (hs : starEach [l] X.env = (false, eval l X.env) :: starEach [] X.env := by rfl) : DE X nf (.Call (.Name "len" p) [l] [] pos) (dLenV X.K i) :=
  pe_imp (pe_callB call_len_seq hg hm boot_len (pa_cons hl pa_nil hs) (by decide) (by decide) hs) fun σ H Q ⟨env, fp, Qd, R, ⟨xs, h, q⟩, k⟩ => by
    obtain ⟨p, vs, es, sq, rr⟩ := R.peek h
    exact ⟨_, es, p, vs, rfl, .inl sq, by rw [rr.length]; exact k _ H _ env fp (.int _) R Ch.refl q⟩
end
/-! ### built-ins on data -/
def CbD (K : PySem.W.Frag) (nf : Addr → Nat) (r : List V → Hp → VK → Prop) (f : List D → D → Prop) : Prop := ∀ H vs ds d, Rels K nf H vs ds → f ds d → ∀ Q : VK, (∀ v H', Rel K nf H' v d → Xt H H' → Q v H') → r vs H Q
def dCB (f : List D → D → Prop) (r : DAs nf) : DT nf := fun env Q => r env fun ds env1 => ∃ d, f ds d ∧ Q d env1
theorem lift_CB {r : List V → Hp → VK → Prop} {f : List D → D → Prop} {ra : DAs nf} (o : CbD K nf r f) (σ : St) (H : Hp) (Q : VK) (h : lift K nf (dCB f ra) σ H Q) : tCB r (liftA K nf ra) σ H Q := by
  obtain ⟨env, fp, Qd, R, h, k⟩ := h
  refine ⟨env, fp, _, R, h, fun vs H1 ds env1 fp1 r1 R1 c1 ⟨d, hd, q⟩ => ?_⟩
  exact o H1 vs ds d r1 hd Q fun v H2 r2 x2 => k v H2 d env1 fp1 r2 (R1.ext x2) (c1.trans x2.ch) q
/-- .. whose answer is frozen at once -/
def rFz (r : List V → Hp → VK → Prop) : List V → Hp → VK → Prop := fun vs H Q => r vs H fun v H' => ∃ p u, v = .ref p ∧ H' p = some u ∧ Mut (some u) ∧ ∀ o, Q v (upd H' p (.frz o u))
section
variable {id T : String} {r : List V → Hp → VK → Prop} {f : List D → D → Prop} {ra : DAs nf} {x : Str} {e : Expr} {es : List Expr} {p pos : Pos}
theorem de_cb (hc : CallR X (.builtin id) r) (o : CbD X.K nf r f) (hg : Gl X x) (hm : X.mg x = none) (hv : bootBuiltins x = some (.builtin id)) (ha : DA X nf (e :: es) ra) (hn : x ≠ "__name__" := by decide) (hdb : (x == ("__debug__" : Str)) = false := by decide)
    (he : starEach (e :: es) X.env = (false, eval e X.env) :: starEach es X.env := by rfl) (hpl : (backTo pos (starEach es X.env)).any (·.1) = false := by rfl) : DE X nf (.Call (.Name x p) (e :: es) [] pos) (dCB f ra) := pe_imp (pe_callB hc hg hm hv ha hn hdb he hpl) (lift_CB o)
theorem de_cbF (hc : CallR X (.builtin id) r) (o : CbD X.K nf (rFz r) f) (hg : Gl X x) (hm : X.mg x = none) (hv : bootBuiltins x = some (.builtin id)) (ha : DA X nf (e :: es) ra) (hn : x ≠ "__name__" := by decide) (hdb : (x == ("__debug__" : Str)) = false := by decide)
    (he : starEach (e :: es) X.env = (false, eval e X.env) :: starEach es X.env := by rfl) (hpl : (backTo pos (starEach es X.env)).any (·.1) = false := by rfl) : DE X nf (.Call (.Name x p) (e :: es) [] pos) (dCB f ra) := pe_imp (pe_fz (pe_callB hc hg hm hv ha hn hdb he hpl)) (lift_CB o)
theorem de_ct (hc : CallR X (.type T) r) (o : CbD X.K nf r f) (hg : Gl X x) (hm : X.mg x = none) (hv : bootBuiltins x = some (.type T)) (ha : DA X nf (e :: es) ra) (hn : x ≠ "__name__" := by decide) (hdb : (x == ("__debug__" : Str)) = false := by decide)
    (he : starEach (e :: es) X.env = (false, eval e X.env) :: starEach es X.env := by rfl) (hpl : (backTo pos (starEach es X.env)).any (·.1) = false := by rfl) : DE X nf (.Call (.Name x p) (e :: es) [] pos) (dCB f ra) := pe_imp (pe_callTy hc hg hm hv ha hn hdb he hpl) (lift_CB o)
theorem de_ctF (hc : CallR X (.type T) r) (o : CbD X.K nf (rFz r) f) (hg : Gl X x) (hm : X.mg x = none) (hv : bootBuiltins x = some (.type T)) (ha : DA X nf (e :: es) ra) (hn : x ≠ "__name__" := by decide) (hdb : (x == ("__debug__" : Str)) = false := by decide)
    (he : starEach (e :: es) X.env = (false, eval e X.env) :: starEach es X.env := by rfl) (hpl : (backTo pos (starEach es X.env)).any (·.1) = false := by rfl) : DE X nf (.Call (.Name x p) (e :: es) [] pos) (dCB f ra) := pe_imp (pe_fz (pe_callTy hc hg hm hv ha hn hdb he hpl)) (lift_CB o)
end
theorem rels1x {H : Hp} {vs : List V} {d : D} (r : Rels K nf H vs [d]) : ∃ v, vs = [v] ∧ Rel K nf H v d := by
  cases r with
  | cons h t => cases t; exact ⟨_, rfl, h⟩
theorem rels2x {H : Hp} {vs : List V} {d e : D} (r : Rels K nf H vs [d, e]) : ∃ v w, vs = [v, w] ∧ Rel K nf H v d ∧ Rel K nf H w e := by
  cases r with
  | cons h t => obtain ⟨w, rfl, hw⟩ := rels1x t; exact ⟨_, _, rfl, h, hw⟩
/-- len -/
def fLen : List D → D → Prop := fun ds d => (∃ xs, (ds = [.lst xs] ∨ ds = [.tup xs]) ∧ d = .int xs.length)
def fLenS : List D → D → Prop := fun ds d => ∃ z, ds = [.str z] ∧ z.length ≤ 1000000 ∧ d = .int z.length
theorem cd_len : CbD K nf (fun xs H Q => ∃ p ys, xs = [.ref p] ∧ (SqL K H p ys ∨ SqT K H p ys) ∧ Q (.int ys.length) H) fLen := by
  rintro H vs ds d r ⟨xs, hd, rfl⟩ Q q
  rcases hd with rfl | rfl
  · obtain ⟨v, rfl, h⟩ := rels1x r
    cases h with
    | lst h rr => exact ⟨_, _, rfl, .inl h.sq, by rw [rr.length]; exact q _ H (.int _) Xt.refl⟩
  · obtain ⟨v, rfl, h⟩ := rels1x r
    cases h with
    | tup h rr => exact ⟨_, _, rfl, .inr h, by rw [rr.length]; exact q _ H (.int _) Xt.refl⟩
theorem cd_lenS : CbD K nf (fun xs H Q => ∃ z, xs = [.str z] ∧ z.length ≤ sizeLine ∧ Q (.int z.length) H) fLenS := by
  rintro H vs ds d r ⟨z, rfl, hl, rfl⟩ Q q
  obtain ⟨v, rfl, h⟩ := rels1x r
  cases h
  exact ⟨z, rfl, sz_ok hl, q _ H (.int _) Xt.refl⟩
/-- int of an int or a bool; abs; str of an int -/
def fInt : List D → D → Prop := fun ds d => (∃ i, ds = [.int i] ∧ d = .int i) ∨ ∃ b, ds = [.bl b] ∧ d = .int (if b then 1 else 0)
theorem cd_int : CbD K nf (fun xs H Q => (∃ i, xs = [.int i] ∧ Q (.int i) H) ∨ ∃ k, xs = [.bl k] ∧ Q (.int (if k then 1 else 0)) H) fInt := by
  rintro H vs ds d r (⟨i, rfl, rfl⟩ | ⟨b, rfl, rfl⟩) Q q
  · obtain ⟨v, rfl, h⟩ := rels1x r
    cases h
    exact .inl ⟨i, rfl, q _ H (.int _) Xt.refl⟩
  · obtain ⟨v, rfl, h⟩ := rels1x r
    cases h
    exact .inr ⟨b, rfl, q _ H (.int _) Xt.refl⟩
def fAbs : List D → D → Prop := fun ds d => ∃ i, ds = [.int i] ∧ d = .int (if i < 0 then -i else i)
theorem cd_abs : CbD K nf (fun xs H Q => ∃ i, xs = [.int i] ∧ Q (.int (if i < 0 then -i else i)) H) fAbs := by
  rintro H vs ds d r ⟨i, rfl, rfl⟩ Q q
  obtain ⟨v, rfl, h⟩ := rels1x r
  cases h
  exact ⟨i, rfl, q _ H (.int _) Xt.refl⟩
def fStrI : List D → D → Prop := fun ds d => ∃ i : Int, ds = [.int i] ∧ i.natAbs.log2 < 1920 ∧ d = .str (toString i)
theorem cd_strI : CbD K nf (fun xs H Q => ∃ i : Int, xs = [.int i] ∧ i.natAbs.log2 < 1920 ∧ Q (.str (toString i)) H) fStrI := by
  rintro H vs ds d r ⟨i, rfl, hl, rfl⟩ Q q
  obtain ⟨v, rfl, h⟩ := rels1x r
  cases h
  exact ⟨i, rfl, hl, q _ H (.str _) Xt.refl⟩
/-- list(list | tuple), frozen; tuple(list) -/
def fList : List D → D → Prop := fun ds d => ∃ xs, (ds = [.lst xs] ∨ ds = [.tup xs]) ∧ d = .lst xs
theorem cd_list : CbD K nf (rFz fun xs H Q => ∃ p ys, xs = [.ref p] ∧ (SqL K H p ys ∨ SqT K H p ys) ∧ ∀ l, H l = none → Q (.ref l) (upd H l (.lst ys))) fList := by
  rintro H vs ds d r ⟨xs, hd, rfl⟩ Q q
  have fin : ∀ ys, Rels K nf H ys xs → ∀ l, H l = none → ∃ p u, V.ref l = .ref p ∧ (upd H l (.lst ys)) p = some u ∧ Mut (some u) ∧ ∀ o, Q (.ref l) (upd (upd H l (.lst ys)) p (.frz o u)) := fun ys rr l hl => by
    refine ⟨l, _, rfl, upd_same, trivial, fun o => ?_⟩
    have x : Xt H (upd (upd H l (.lst ys)) l (.frz o (.lst ys))) := xt_fz (Xt.new hl) hl
    exact q _ _ (.lst ⟨o, upd_same⟩ (rr.mono x.stp)) x
  rcases hd with rfl | rfl
  · obtain ⟨v, rfl, h⟩ := rels1x r
    cases h with
    | lst h rr => exact ⟨_, _, rfl, .inl h.sq, fin _ rr⟩
  · obtain ⟨v, rfl, h⟩ := rels1x r
    cases h with
    | tup h rr => exact ⟨_, _, rfl, .inr h, fin _ rr⟩
def fTuple : List D → D → Prop := fun ds d => ∃ xs, (ds = [.lst xs] ∨ ds = [.tup xs]) ∧ d = .tup xs
theorem cd_tuple : CbD K nf (fun xs H Q => ∃ p ys, xs = [.ref p] ∧ ((SqL K H p ys ∧ ∀ l, H l = none → Q (.ref l) (upd H l (.tup ys))) ∨ (SqT K H p ys ∧ Q (.ref p) H))) fTuple := by
  rintro H vs ds d r ⟨xs, hd, rfl⟩ Q q
  rcases hd with rfl | rfl
  · obtain ⟨v, rfl, h⟩ := rels1x r
    cases h with
    | @lst _ ws _ h rr =>
      refine ⟨_, _, rfl, .inl ⟨h.sq, fun l hl => ?_⟩⟩
      have x : Xt H (upd H l (.tup ws)) := Xt.new hl
      exact q _ _ (.tup (SqT.of upd_same) (rr.mono x.stp)) x
  · obtain ⟨v, rfl, h⟩ := rels1x r
    cases h with
    | tup h rr => exact ⟨_, _, rfl, .inr ⟨h, q _ H (.tup h rr) Xt.refl⟩⟩
/-- dict(dict), list(dict), frozen -/
def fDict : List D → D → Prop := fun ds d => ∃ kds, ds = [.dct kds] ∧ d = .dct kds
theorem cd_dict : CbD K nf (rFz fun xs H Q => ∃ (a : Addr) (kvs : List (Key × V)), xs = [.ref a] ∧ Rd H a (.dK kvs) ∧ ∀ p, H p = none → Q (.ref p) (upd H p (.dK kvs))) fDict := by
  rintro H vs ds d r ⟨kds, rfl, rfl⟩ Q q
  obtain ⟨v, rfl, h⟩ := rels1x r
  cases h with
  | @dct _ _ kvs _ h rr =>
    refine ⟨_, _, rfl, .inr ⟨_, h⟩, fun l hl => ⟨l, _, rfl, upd_same, trivial, fun o => ?_⟩⟩
    have x : Xt H (upd (upd H l (.dK kvs)) l (.frz o (.dK kvs))) := xt_fz (Xt.new hl) hl
    exact q _ _ (.dct upd_same (rr.mono x.stp)) x
theorem rels_keys {H : Hp} : ∀ {kvs : List (Key × V)} {kds : List (Key × D)}, RelK K nf H kvs kds → Rels K nf H (kvs.map fun kv => kV kv.1) (kds.map fun kd => kD kd.1)
  | _, _, .nil => .nil
  | _, _, .cons _ r => .cons (rel_key _) (rels_keys r)
def fListD : List D → D → Prop := fun ds d => ∃ kds, ds = [.dct kds] ∧ d = .lst (kds.map fun kd => kD kd.1)
theorem cd_listD : CbD K nf (rFz fun xs H Q => ∃ (a : Addr) (kvs : List (Key × V)), xs = [.ref a] ∧ Rd H a (.dK kvs) ∧ ∀ p, H p = none → Q (.ref p) (upd H p (.lst (kvs.map fun kv => kV kv.1)))) fListD := by
  rintro H vs ds d r ⟨kds, rfl, rfl⟩ Q q
  obtain ⟨v, rfl, h⟩ := rels1x r
  cases h with
  | @dct _ _ kvs _ h rr =>
    refine ⟨_, _, rfl, .inr ⟨_, h⟩, fun l hl => ⟨l, _, rfl, upd_same, trivial, fun o => ?_⟩⟩
    have x : Xt H (upd (upd H l (.lst (kvs.map fun kv => kV kv.1))) l (.frz o (.lst (kvs.map fun kv => kV kv.1)))) := xt_fz (Xt.new hl) hl
    exact q _ _ (.lst ⟨o, upd_same⟩ ((rels_keys rr).mono x.stp)) x
/-- sorted of texts -/
theorem rels_strs {H : Hp} : ∀ {vs : List V} {ss : List Str}, Rels K nf H vs (ss.map .str) → vs = ss.map V.str
  | _, [], .nil => rfl
  | _, s :: ss, .cons h r => by cases h; rw [rels_strs r]; rfl
theorem strs_rels {H : Hp} : ∀ (ss : List Str), Rels K nf H (ss.map V.str) (ss.map D.str)
  | [] => .nil
  | s :: ss => .cons (.str s) (strs_rels ss)
def fSortS : List D → D → Prop := fun ds d => ∃ ss : List Str, ds = [.lst (ss.map .str)] ∧ ss.length < 64 ∧ ∃ ys : List Str, ys.Perm ss ∧ PyProof.Rows.sortedS ys = true ∧ d = .lst (ys.map .str)
def dSortS (ra : DAs nf) : DT nf := fun env Q => ra env fun ds env1 => ∃ ss : List Str, ds = [.lst (ss.map .str)] ∧ ss.length < 64 ∧ ∀ ys : List Str, ys.Perm ss → PyProof.Rows.sortedS ys = true → Q (.lst (ys.map .str)) env1
theorem de_sortS {e : Expr} {p pos : Pos} {ra : DAs nf} (hg : Gl X "sorted") (hm : X.mg "sorted" = none) (ha : DA X nf [e] ra) (he : starEach [e] X.env = (false, eval e X.env) :: starEach [] X.env := by rfl) (hpl : (backTo pos (starEach [] X.env)).any (·.1) = false := by rfl) : DE X nf (.Call (.Name "sorted" p) [e] [] pos) (dSortS ra) :=
  pe_imp (pe_fz (pe_callB cr_sortedS hg hm (by decide +kernel) ha (by decide) (by decide) he hpl)) fun σ H Q ⟨env, fp, Qd, R, h, k⟩ => ⟨env, fp, _, R, h, fun vs H1 ds env1 fp1 r1 R1 c1 ⟨ss, e, hl, q⟩ => by
    subst e
    obtain ⟨v, rfl, hr⟩ := rels1x r1
    cases hr with
    | @lst a ws _ hz rr =>
      have ew := rels_strs rr
      subst ew
      refine ⟨a, ss, rfl, hz.sq, hl, fun ys p hp hs hn => ⟨p, _, rfl, upd_same, trivial, fun o => ?_⟩⟩
      have x : Xt H1 (upd (upd H1 p (.lst (ys.map V.str))) p (.frz o (.lst (ys.map V.str)))) := xt_fz (Xt.new hn) hn
      exact k _ _ _ env1 fp1 (.lst ⟨o, upd_same⟩ ((strs_rels ys).mono x.stp)) (R1.ext x) (c1.trans x.ch) (q ys hp hs)⟩
/-- all of bools -/
theorem rels_bls {H : Hp} : ∀ {vs : List V} {bs : List Bool}, Rels K nf H vs (bs.map .bl) → vs = bs.map V.bl
  | _, [], .nil => rfl
  | _, s :: ss, .cons h r => by cases h; rw [rels_bls r]; rfl
def fAll : List D → D → Prop := fun ds d => ∃ bs : List Bool, ds = [.lst (bs.map .bl)] ∧ d = .bl (bs.all id)
theorem cd_all : CbD K nf (rAll K) fAll := by
  rintro H vs ds d r ⟨bs, rfl, rfl⟩ Q q
  obtain ⟨v, rfl, h⟩ := rels1x r
  cases h with
  | lst h rr =>
    have e := rels_bls rr
    subst e
    exact ⟨_, bs, rfl, h.sq, q _ H (.bl _) Xt.refl⟩
/-! ### isinstance -/
structure IsiC (K : PySem.W.Frag) (C : Addr) : Prop where
  cl : Cls K C
  ha : PySem.W.findIn K (.ref C) "__class__" = some (some (.builtin "object.__class__"))
  hn : PySem.W.specialIn K (.builtin "object.__class__") "__get__" = some (some (.builtin "getset_descriptor.__get__"))
  htk : PySem.W.takesIn K (.builtin "object.__class__") = some true
  hm : PySem.W.mroIn K C (.type "object") = some true
def tyD : D → Option Value
  | .non => some (.type "NoneType")
  | .bl _ => some (.type "bool")
  | .int _ => some (.type "int")
  | .str _ => some (.type "str")
  | .tup _ => some (.type "tuple")
  | .lst _ => some (.type "list")
  | .dct _ => some (.type "dict")
  | .obj C _ => some (.ref C)
  | _ => none
theorem ty_of {H : Hp} {v : V} {x : D} {t : Value} (hC : ∀ C fs, x = .obj C fs → IsiC K C) (r : Rel K nf H v x) (e : tyD x = some t) : TyX K H v t := by
  cases r with
  | non => cases e; exact .base .non
  | bl b => cases e; exact .base (.bl b)
  | int i => cases e; exact .base (.int i)
  | str s => cases e; exact .base (.str s)
  | ty n => cases e
  | exc h r => cases e
  | cls a => cases e
  | tup h r =>
    cases e
    rcases h with (h | ⟨o, h⟩) | ⟨o, its, n, h1, h2, _⟩
    · exact .base (.tup h)
    · exact .fTuple h
    · exact .kTuple h1 h2
  | lst h r =>
    cases e
    obtain ⟨o, h⟩ := h
    exact .base (.frz h)
  | dct h r => cases e; exact .fDict h
  | obj h n l r =>
    cases e
    have c := hC _ _ rfl
    exact .base (.ins h c.cl c.ha c.hn c.htk c.hm)
  | scr h => cases e
def clsD : D → Option Value
  | .ty n => some (.type n)
  | .cls a => some (.ref a)
  | _ => none
def fIsi (K : PySem.W.Frag) : List D → D → Prop := fun ds d => ∃ x c t u b, ds = [x, c] ∧ (∀ C fs, x = .obj C fs → IsiC K C) ∧ tyD x = some t ∧ clsD c = some u ∧ PySem.W.kitOne K t u = some b ∧ d = .bl b
theorem cd_isi : CbD K nf (rIsi K) (fIsi K) := by
  rintro H vs ds d r ⟨x, c, t, u, b, rfl, hC, e1, e2, e3, rfl⟩ Q q
  obtain ⟨v, w, rfl, h1, h2⟩ := rels2x r
  refine ⟨v, w, t, u, b, rfl, ?_, ty_of hC h1 e1, e3, q _ H (.bl _) Xt.refl⟩
  cases h2 <;> simp only [clsD] at e2 <;> cases e2
  · exact .ty _
  · exact .own _
end
end DL

namespace DL
open PySem L2
section
variable [Anch] {X : Cx} {nf : Addr → Nat} {K : PySem.W.Frag}
/-! ### list comprehensions -/
theorem pts_imp {es : List Expr} {t t' : TT} (h : PTs X es t) (i : ∀ σ H Q, t' σ H Q → t σ H Q) : PTs X es t' := ⟨fun pins s σ H Q I q => h.run pins s σ H Q I (i σ H Q q)⟩
theorem dts_nil : PTs X [] (liftB X.K nf dYes) := pts_imp pts_nil fun σ H Q ⟨env, fp, Qd, R, q, k⟩ => k true H env fp R Ch.refl q
theorem dts_one {c : Expr} {t : DB nf} (h : DC X nf c t) : PTs X [c] (liftB X.K nf t) := pts_one h
section
variable {elt tg iter : Expr} {ifs : List Expr} {scope : Scope} {own : List (Str × Nat)} {pos : Pos} {di : DAs nf} {g : DG nf} {dt : DB nf} {de dk : DT nf}
theorem de_lc (hc : X.calm = true) (hN : X.N.Nodup) (hi : DIo X nf tg iter di) (ok : BlkOk X.N X.env.scope scope own)
    (hg : ∀ (s : Shared) (H : Hp) (C : Addr) (cl : List (Str × Addr)) (fp : List Addr), DGo (X.blk s H scope (compEnvC scope cl C X.env) fp) nf tg (own.map (·.2)) g) (ht : ∀ (s : Shared) (H : Hp) (C : Addr) (cl : List (Str × Addr)) (fp : List Addr), PTs (X.blk s H scope (compEnvC scope cl C X.env) fp) ifs (liftB X.K nf dt))
    (he : ∀ (s : Shared) (H : Hp) (C : Addr) (cl : List (Str × Addr)) (fp : List Addr), DE (X.blk s H scope (compEnvC scope cl C X.env) fp) nf elt de) (hs : ∀ x, foldedSetIterable iter X.env x = pure x := by intro _; rfl) :
    DE X nf (.ListComp elt [⟨tg, iter, ifs, 0⟩] scope pos) (dLc di g dt de (own.map (·.2))) := pe_imp (pe_fz (pe_lc hc hN hi ok hg ht he hs)) fun σ H Q ⟨env, fp, Qd, R, h, k⟩ => by
  refine lift_lc R h fun p vs H' ds env' fp' hp hp' np rr R' c q => ⟨p, _, rfl, hp', trivial, fun o => ?_⟩
  have st : Stp nf H' (upd H' p (.frz o (.lst vs))) := fun a u e f => by
    by_cases ha : a = p
    · subst ha; rw [hp'] at e; cases e; exact f.elim
    · rw [upd_ne ha]; exact e
  refine k _ _ _ env' fp' (.lst ⟨o, upd_same⟩ (rr.mono st)) (R'.frame (fun a m => upd_ne fun z => np (z ▸ m)) st R.2 (c.put hp)) ⟨fun a u e n => ?_, c.sub, fun a e => ?_⟩ q
  · rw [upd_ne (ne_of_none e hp)]; exact c.keep a u e n
  · by_cases ha : a = p
    · subst ha; rw [upd_same] at e; cases e
    · rw [upd_ne ha] at e; exact c.there a e
/-- behind the statement the thing in slot i is frozen -/
def tFzS (i : Nat) (t : TS) : TS := fun E σ H => t { E with nx := fun σ' H' => ∃ p u, σ'[i]? = some (some (.ref p)) ∧ H' p = some u ∧ Mut (some u) ∧ ∀ o, E.nx σ' (upd H' p (.frz o u)) } σ H
theorem ps_fzS {st : Stmt} {t : TS} {i : Nat} (h : PS X st t) : PS X st (tFzS i t) := by
  refine ⟨fun pins s σ H E I hw => ?_⟩
  refine thn (h.run pins s σ H _ I hw) fun f s1 q => ?_
  cases f with
  | next =>
    obtain ⟨σ', H', I', p, u, _, hp, mu, q⟩ := q
    obtain ⟨o, I2⟩ := I'.lock hp mu
    exact ⟨σ', _, I2, q o⟩
  | brk => exact q
  | cont => exact q
  | ret v => exact q
theorem ds_setLc {i : Nat} {y : Str} {py spos : Pos} (hc : X.calm = true) (hN : X.N.Nodup) (hy : X.N[i]? = some y) (hyl : X.env.scope.names.lookup y = some .local)
    (hsw : swapsWith (.ListComp elt [⟨tg, iter, ifs, 0⟩] scope pos) (some (.Name y py)) spos.line X.env = pure true) (hi : DIo X nf tg iter di) (ok : BlkOk X.N X.env.scope scope own)
    (hg : ∀ (s : Shared) (H : Hp) (C : Addr) (cl : List (Str × Addr)) (fp : List Addr), DGo (X.blk s H scope (compEnvC scope cl C X.env) fp) nf tg (own.map (·.2)) g) (ht : ∀ (s : Shared) (H : Hp) (C : Addr) (cl : List (Str × Addr)) (fp : List Addr), PTs (X.blk s H scope (compEnvC scope cl C X.env) fp) ifs (liftB X.K nf dt))
    (he : ∀ (s : Shared) (H : Hp) (C : Addr) (cl : List (Str × Addr)) (fp : List Addr), DE (X.blk s H scope (compEnvC scope cl C X.env) fp) nf elt de) (hs : ∀ x, foldedSetIterable iter X.env x = pure x := by intro _; rfl) :
    DS X nf (.Assign [.Name y py] (.ListComp elt [⟨tg, iter, ifs, 0⟩] scope pos) spos) (sSet i (dLc di g dt de (own.map (·.2)))) := ps_imp (ps_fzS (i := i) (ps_setLc (i := i) (g := liftG X.K nf (own.map (·.2)) g) (te := lift X.K nf de) hc hN hy hyl hsw hi ok hg ht he hs)) fun E σ H ⟨env, fp, De, R, h, br⟩ => by
  unfold tFzS tAsg
  refine lift_lc R h fun p vs H' ds env' fp' hp hp' np rr R' c ⟨hl, q⟩ => ⟨p, _, ?_, hp', trivial, fun o => ?_⟩
  · rw [List.getElem?_set_self (by rw [R'.length]; exact hl)]
  · have st : Stp nf H' (upd H' p (.frz o (.lst vs))) := fun a u e f => by
      by_cases ha : a = p
      · subst ha; rw [hp'] at e; cases e; exact f.elim
      · rw [upd_ne ha]; exact e
    have R2 := R'.frame (H' := upd H' p (.frz o (.lst vs))) (fun a m => upd_ne fun z => np (z ▸ m)) st R.2 (c.put hp)
    obtain ⟨fp3, R3, c3⟩ := R2.setFz hl (.lst ⟨o, upd_same⟩ (rr.mono st) : Rel X.K nf _ (.ref p) (.lst ds))
    refine br.nx _ _ _ fp3 R3 (Ch.trans (fp1 := fp') ⟨fun a u e n => ?_, c.sub, fun a e => ?_⟩ c3) q
    · rw [upd_ne (ne_of_none e hp)]; exact c.keep a u e n
    · by_cases ha : a = p
      · subst ha; rw [upd_same] at e; cases e
      · rw [upd_ne ha] at e; exact c.there a e
end
/-! ### dicts -/
def keyOf : D → Option Key
  | .int i => some (.inl i)
  | .str s => some (.inr s)
  | _ => none
theorem key_of {H : Hp} {v : V} {x : D} {k : Key} (r : Rel K nf H v x) (e : keyOf x = some k) : v = kV k := by
  cases r <;> simp only [keyOf] at e <;> cases e <;> rfl
def valD (kds : List (Key × D)) (k : Key) : Option D := (kds.find? fun kv => decide (kv.1 = k)).map (·.2)
def putD (kds : List (Key × D)) (k : Key) (d : D) : List (Key × D) :=
  if (kds.any fun kv => decide (kv.1 = k)) = true then kds.map (fun kv => if kv.1 = k then (kv.1, d) else kv) else kds ++ [(k, d)]
theorem RelK.val {H : Hp} {k : Key} : ∀ {kvs : List (Key × V)} {kds : List (Key × D)} {d : D}, RelK K nf H kvs kds → valD kds k = some d → ∃ v, valV kvs k = some v ∧ Rel K nf H v d
  | _, _, _, .nil, e => by cases e
  | _, _, d, @RelK.cons _ _ _ k' v vs d' ds h r, e => by
    by_cases hk : k' = k
    · subst hk
      simp only [valD, List.find?_cons, decide_true, Option.map_some, Option.some.injEq] at e
      subst e
      exact ⟨v, valV_pos rfl, h⟩
    · have e' : valD ds k = some d := by simpa [valD, List.find?_cons, hk] using e
      obtain ⟨w, h1, h2⟩ := RelK.val r e'
      exact ⟨w, by rw [valV_neg hk]; exact h1, h2⟩
theorem RelK.val_none {H : Hp} {k : Key} : ∀ {kvs : List (Key × V)} {kds : List (Key × D)}, RelK K nf H kvs kds → (valV kvs k).isSome = (valD kds k).isSome
  | _, _, .nil => rfl
  | _, _, @RelK.cons _ _ _ k' v vs d' ds h r => by
    by_cases hk : k' = k
    · subst hk
      simp [valD, valV_pos]
    · rw [valV_neg hk, RelK.val_none r]
      simp [valD, List.find?_cons, hk]
theorem RelK.any {H : Hp} {k : Key} : ∀ {kvs : List (Key × V)} {kds : List (Key × D)}, RelK K nf H kvs kds → (kvs.any fun kv => decide (kv.1 = k)) = (kds.any fun kv => decide (kv.1 = k))
  | _, _, .nil => rfl
  | _, _, .cons h r => by rw [List.any_cons, List.any_cons, RelK.any r]
theorem RelK.mapPut {H : Hp} {k : Key} {v : V} {d : D} (h : Rel K nf H v d) : ∀ {kvs : List (Key × V)} {kds : List (Key × D)}, RelK K nf H kvs kds → RelK K nf H (kvs.map fun kv => if kv.1 = k then (kv.1, v) else kv) (kds.map fun kv => if kv.1 = k then (kv.1, d) else kv)
  | _, _, .nil => .nil
  | _, _, @RelK.cons _ _ _ k' v' vs d' ds h' r => by
    rw [List.map_cons, List.map_cons]
    by_cases hk : k' = k
    · rw [if_pos hk, if_pos hk]; exact .cons h (RelK.mapPut h r)
    · rw [if_neg hk, if_neg hk]; exact .cons h' (RelK.mapPut h r)
theorem RelK.append {H : Hp} : ∀ {kvs ls : List (Key × V)} {kds es : List (Key × D)}, RelK K nf H kvs kds → RelK K nf H ls es → RelK K nf H (kvs ++ ls) (kds ++ es)
  | _, _, _, _, .nil, s => s
  | _, _, _, _, .cons h r, s => .cons h (RelK.append r s)
theorem RelK.put {H : Hp} {k : Key} {v : V} {d : D} {kvs : List (Key × V)} {kds : List (Key × D)} (r : RelK K nf H kvs kds) (h : Rel K nf H v d) : RelK K nf H (putK kvs k v) (putD kds k d) := by
  unfold putK putD
  rw [r.any]
  split
  · exact RelK.mapPut h r
  · exact r.append (.cons h .nil)
theorem putD_len (kds : List (Key × D)) (k : Key) (d : D) : (putD kds k d).length ≤ kds.length + 1 := by
  unfold putD
  split <;> simp
section
variable {o i : Expr} {da db : DT nf} {pos : Pos}
/-- d[k] of a frozen dict -/
def fDG : D → D → D → Prop := fun x y z => ∃ kds k, x = .dct kds ∧ keyOf y = some k ∧ valD kds k = some z
def dDG (da db : DT nf) : DT nf := dOp fDG da db
theorem de_dget (hu : X.A.units + 1 < cLine) (ho : DE X nf o da) (hi : DE X nf i db) (hs : NoSl i := by exact fun _ _ => rfl) : DE X nf (.Subscript o i pos) (dDG da db) := pe_imp (pe_dget hu ho hi hs) fun σ H Q h =>
  lift_op (r := fun x y H2 Q => ∃ a v, x = .ref a ∧ DGet H2 a y (some v) ∧ Q v H2) (by
    rintro H v w x y z r1 r2 ⟨kds, k, rfl, e1, e2⟩ Q q
    cases r1 with
    | @dct a ob kvs _ ha rr =>
      obtain ⟨u, e3, r3⟩ := rr.val e2
      have ew := key_of r2 e1
      subst ew
      exact ⟨a, u, rfl, .inl ⟨kvs, k, .inr ⟨ob, ha⟩, rfl, e3.symm⟩, q u H r3 Xt.refl⟩) σ H Q h
/-- k in d -/
def fDIn (neg : Bool) : D → D → D → Prop := fun y x z => ∃ kds k, x = .dct kds ∧ keyOf y = some k ∧ z = .bl (if neg then !(valD kds k).isSome else (valD kds k).isSome)
theorem od_din : OpD K nf (fun y x H2 Q => ∃ a o, x = .ref a ∧ DGet H2 a y o ∧ Q (.bl o.isSome) H2) (fDIn false) := by
  rintro H v w x y z r1 r2 ⟨kds, k, rfl, e1, rfl⟩ Q q
  cases r2 with
  | @dct a ob kvs _ ha rr =>
    have ew := key_of r1 e1
    subst ew
    refine ⟨a, valV kvs k, rfl, .inl ⟨kvs, k, .inr ⟨ob, ha⟩, rfl, rfl⟩, ?_⟩
    rw [rr.val_none]
    exact q _ H (.bl _) Xt.refl
theorem od_dnin : OpD K nf (fun y x H2 Q => ∃ a o, x = .ref a ∧ DGet H2 a y o ∧ Q (.bl (!o.isSome)) H2) (fDIn true) := by
  rintro H v w x y z r1 r2 ⟨kds, k, rfl, e1, rfl⟩ Q q
  cases r2 with
  | @dct a ob kvs _ ha rr =>
    have ew := key_of r1 e1
    subst ew
    refine ⟨a, valV kvs k, rfl, .inl ⟨kvs, k, .inr ⟨ob, ha⟩, rfl, rfl⟩, ?_⟩
    rw [rr.val_none]
    exact q _ H (.bl _) Xt.refl
def dDIn (neg : Bool) (da db : DT nf) : DT nf := dOp (fDIn neg) da db
theorem de_din (hu : X.A.units + 1 < cLine) (hi : DE X nf i da) (ho : DE X nf o db) (h1 : behindInMarks .In o = false := by rfl) : DE X nf (.Compare i [.In] [o] pos) (dDIn false da db) := pe_imp (pe_cmp (pc_din hu hi ho) h1) (lift_op od_din)
theorem de_dnin (hu : X.A.units + 1 < cLine) (hi : DE X nf i da) (ho : DE X nf o db) (h1 : behindInMarks .NotIn o = false := by rfl) : DE X nf (.Compare i [.NotIn] [o] pos) (dDIn true da db) := pe_imp (pe_cmp (pc_dnotin hu hi ho) h1) (lift_op od_dnin)
theorem dc_din (hu : X.A.units + 1 < cLine) (hi : DE X nf i da) (ho : DE X nf o db) (h1 : behindInMarks .In o = false := by rfl) : DC X nf (.Compare i [.In] [o] pos) (dBv (dDIn false da db)) := pt_imp (pt_cmp (pc_din hu hi ho) h1) (lift_B2 (lift_op od_din))
theorem dc_dnin (hu : X.A.units + 1 < cLine) (hi : DE X nf i da) (ho : DE X nf o db) (h1 : behindInMarks .NotIn o = false := by rfl) : DC X nf (.Compare i [.NotIn] [o] pos) (dBv (dDIn true da db)) := pt_imp (pt_cmp (pc_dnotin hu hi ho) h1) (lift_B2 (lift_op od_dnin))
end
/-! owned dicts -/
def dctA (K : PySem.W.Frag) (nf : Addr → Nat) (kds : List (Key × D)) : OA nf where
  inv v fp H := ∃ p kvs, v = .ref p ∧ fp = [p] ∧ H p = some (.dK kvs) ∧ RelK K nf H kvs kds
  frame := by
    rintro v fp H H' ⟨p, vs, e1, e2, hp, r⟩ k st
    subst e2
    exact ⟨p, vs, e1, rfl, by rw [k p (List.mem_singleton.mpr rfl)]; exact hp, r.mono st⟩
  trk := by
    rintro v fp H ⟨p, vs, e1, e2, hp, r⟩ a m
    subst e2
    rw [List.mem_singleton.mp m]
    exact ⟨_, hp, fun z => z⟩
  nd := by
    rintro v fp H ⟨p, vs, e1, e2, hp, r⟩
    subst e2
    simp
/-- x = {} -/
def sSetD0 (K : PySem.W.Frag) (i : Nat) : DTS nf := fun De env => i < env.length ∧ ∀ p, De.nx (env.set i (.ow (.ref p) (dctA K nf [])))
theorem ds_setD0 {i : Nat} {x : Str} {pos pos' dpos : Pos} (hN : X.N.Nodup) (hi : X.N[i]? = some x) (hx : Loc X.env.scope x) (hs : swapsWith (.Dict [] [] dpos) (some (.Name x pos')) pos.line X.env = pure false := by rfl)
    (hf : X.fn x = true ∨ X.env.scope.names.lookup x = some .local := by first | exact .inl rfl | exact .inr rfl | assumption) : DS X nf (.Assign [.Name x pos'] (.Dict [] [] dpos) pos) (sSetD0 X.K i) :=
  ps_imp (ps_set hN hi hx pe_dnewK hs hf) fun E σ H ⟨env, fp, De, R, ⟨hl, q⟩, br⟩ => fun p hp => by
    have x : Xt H (upd H p (.dK [])) := Xt.new hp
    obtain ⟨fp2, R2, c2⟩ := R.setNew (i := i) (v := .ref p) (A := dctA X.K nf []) (fi := [p]) hl x ⟨p, [], rfl, rfl, upd_same, .nil⟩ (fun a m => by rw [List.mem_singleton.mp m]; exact hp)
    exact br.nx _ _ _ fp2 R2 c2 (q p)
/-- x = dict(e), one's own -/
def sSetDD (K : PySem.W.Frag) (i : Nat) (r : DAs nf) : DTS nf := fun De env => r env fun ds env1 => ∃ kds, ds = [.dct kds] ∧ i < env1.length ∧ ∀ p, De.nx (env1.set i (.ow (.ref p) (dctA K nf kds)))
theorem ds_setDD {i : Nat} {x : Str} {e : Expr} {r : DAs nf} {pos pos' p cpos : Pos} (hN : X.N.Nodup) (hi : X.N[i]? = some x) (hx : Loc X.env.scope x) (hg : Gl X "dict") (hm : X.mg "dict" = none) (h : DA X nf [e] r) (he : starEach [e] X.env = (false, eval e X.env) :: starEach [] X.env := by rfl)
    (hs : swapsWith (.Call (.Name "dict" p) [e] [] cpos) (some (.Name x pos')) pos.line X.env = pure false := by rfl)
    (hf : X.fn x = true ∨ X.env.scope.names.lookup x = some .local := by first | exact .inl rfl | exact .inr rfl | assumption) : DS X nf (.Assign [.Name x pos'] (.Call (.Name "dict" p) [e] [] cpos) pos) (sSetDD X.K i r) :=
  ps_imp (ps_set hN hi hx (pe_callTy call_dictD hg hm (by decide +kernel) h (by decide) (by decide) he) hs hf) fun E σ H ⟨env, fp, De, R, q, br⟩ => ⟨env, fp, _, R, q, fun vs H1 ds env1 fp1 r1 R1 c1 ⟨kds, e, hl, q1⟩ => by
    subst e
    obtain ⟨v, rfl, hr⟩ := rels1x r1
    cases hr with
    | @dct a ob kvs _ ha rr =>
      refine ⟨a, kvs, rfl, .inr ⟨ob, ha⟩, fun p hp => ?_⟩
      have x : Xt H1 (upd H1 p (.dK kvs)) := Xt.new hp
      obtain ⟨fp2, R2, c2⟩ := R1.setNew (i := i) (v := .ref p) (A := dctA X.K nf kds) (fi := [p]) hl x ⟨p, kvs, rfl, rfl, upd_same, rr.mono x.stp⟩ (fun a m => by rw [List.mem_singleton.mp m]; exact hp)
      exact br.nx _ _ _ fp2 R2 (c1.trans c2) (q1 p)⟩
theorem EnvR.dctAt {H : Hp} {σ : St} {env : EV nf} {fp : List Addr} (R : EnvR K nf H σ env fp) {i : Nat} {v : V} {xs : List (Key × D)} (e : env[i]? = some (.ow v (dctA K nf xs))) :
    ∃ p vs, v = .ref p ∧ σ[i]? = some (some (.ref p)) ∧ H p = some (.dK vs) ∧ RelK K nf H vs xs ∧
      (∀ vs' xs', RelK K nf H vs' xs' → ∃ fp', EnvR K nf (upd H p (.dK vs')) σ (env.set i (.ow v (dctA K nf xs'))) fp' ∧ Ch fp H fp' (upd H p (.dK vs'))) ∧
      ∀ o, Rel K nf (upd H p (.frz o (.dK vs))) (.ref p) (.dct xs) ∧ ∃ fp', EnvR K nf (upd H p (.frz o (.dK vs))) σ (env.set i (.fz (.dct xs))) fp' ∧ Ch fp H fp' (upd H p (.frz o (.dK vs))) := by
  obtain ⟨o, fi, e1, ⟨eo, p, vs, ev, ef, hp, r⟩, sub, rep⟩ := R.at e
  subst eo ev ef
  have es : σ.set i (some (.ref p)) = σ := by
    obtain ⟨h1, h2⟩ := List.getElem?_eq_some_iff.mp e1
    rw [← h2]
    exact List.set_getElem_self h1
  have stp : ∀ u', Stp nf H (upd H p u') := fun u' a u h f => by
    by_cases ha : a = p
    · subst ha; rw [hp] at h; cases h; exact f.elim
    · rw [upd_ne ha]; exact h
  have kp : ∀ u' a u, H a = some u → a ∉ [p] → upd H p u' a = some u := fun u' a u h n => by
    rw [upd_ne (fun z => n (by rw [z]; exact List.mem_singleton.mpr rfl))]; exact h
  have ch : ∀ u' fp', (∀ a ∈ fp', a ∈ fp ∨ H a = none) → Ch fp H fp' (upd H p u') := fun u' fp' sub' => ⟨fun a u h n => by
    rw [upd_ne (fun z => n (by rw [z]; exact sub p (List.mem_singleton.mpr rfl)))]; exact h, sub', fun a h => by
    by_cases ha : a = p
    · subst ha; rw [upd_same] at h; cases h
    · rw [upd_ne ha] at h; exact h⟩
  refine ⟨p, vs, rfl, e1, hp, r, fun vs' xs' r' => ?_, fun o => ?_⟩
  · obtain ⟨fp', R', sub'⟩ := rep (upd H p (.dK vs')) (some (.ref p)) (.ow (.ref p) (dctA K nf xs')) [p] ⟨rfl, p, vs', rfl, rfl, upd_same, r'.mono (stp _)⟩ (kp _) (fun a m => .inl m) (stp _)
    rw [es] at R'
    exact R.rex R' (ch _ fp' sub')
  · have rel : Rel K nf (upd H p (.frz o (.dK vs))) (.ref p) (.dct xs) := .dct upd_same (r.mono (stp _))
    obtain ⟨fp', R', sub'⟩ := rep (upd H p (.frz o (.dK vs))) (some (.ref p)) (.fz (.dct xs)) [] ⟨rfl, _, rfl, rel⟩ (kp _) (fun a m => by cases m) (stp _)
    rw [es] at R'
    exact ⟨rel, R.rex R' (ch _ fp' sub')⟩
/-- d[k] = v of the slot's own dict -/
def sDPutV (K : PySem.W.Frag) (i : Nat) (db dv : DT nf) : DTS nf := fun De env => dv env fun d env1 => (∃ v kds, env1[i]? = some (.ow v (dctA K nf kds))) ∧ db env1 fun y env2 => ∃ v kds k, env2[i]? = some (.ow v (dctA K nf kds)) ∧ keyOf y = some k ∧ kds.length < 1000000 ∧ De.nx (env2.set i (.ow v (dctA K nf (putD kds k d))))
theorem ds_dputV {i : Nat} {o ix value : Expr} {db dv : DT nf} {pos pos' : Pos} (hu : X.A.units + 1 < cLine) (ho : PE X o (tVar i)) (hi : DE X nf ix db) (hv : DE X nf value dv) (hs : swapsWith value (some (.Subscript o ix pos')) pos.line X.env = pure false := by rfl) :
    DS X nf (.Assign [.Subscript o ix pos'] value pos) (sDPutV X.K i db dv) := ps_imp (ps_dput hu ho hi hv hs) fun E σ H ⟨env, fp, De, R, q, br⟩ =>
  lift_run R q fun w H1 d env1 fp1 r1 R1 c1 ⟨⟨v0, kds0, e0⟩, q1⟩ => by
    obtain ⟨p0, _, _, es0, _, _, _⟩ := R1.dctAt e0
    refine ⟨_, es0, lift_run R1 q1 fun u H2 y env2 fp2 r2 R2 c2 ⟨v, kds, k, e2, ek, hl, q2⟩ => ?_⟩
    obtain ⟨p, kvs, ev, es, hp, rr, rep, _⟩ := R2.dctAt e2
    rw [es0] at es
    cases es
    have eu := key_of r2 ek
    subst eu
    obtain ⟨fp3, R3, c3⟩ := rep (putK kvs k w) (putD kds k d) (rr.put (r1.mono (c2.stp R1)))
    exact ⟨p0, _, rfl, .inl ⟨kvs, k, hp, rfl, by rw [rr.length]; exact Nat.lt_of_lt_of_le hl (by decide), rfl⟩, br.nx σ _ _ fp3 R3 ((c1.trans c2).trans c3) q2⟩
/-- the slot's own dict as a value, frozen from here on -/
def dVarFD (K : PySem.W.Frag) (i : Nat) : DT nf := fun env Q => ∃ v kds, env[i]? = some (.ow v (dctA K nf kds)) ∧ Q (.dct kds) (env.set i (.fz (.dct kds)))
theorem de_varFD {i : Nat} {e : Expr} (h : PE X e (tVar i)) : DE X nf e (dVarFD X.K i) := pe_imp (pe_fz h) fun σ H Q ⟨env, fp, Qd, R, ⟨v, xs, e, q⟩, k⟩ => by
  obtain ⟨p, vs, ev, es, hp, _, _, f⟩ := R.dctAt e
  refine ⟨_, es, p, _, rfl, hp, trivial, fun o => ?_⟩
  obtain ⟨rel, fp', R', c⟩ := f o
  exact k _ _ _ _ fp' rel R' c q
end
end DL

namespace DL
open PySem L2
section
variable [Anch] {X : Cx} {nf : Addr → Nat} {K : PySem.W.Frag}
/-! ### dict comprehensions -/
def dCompD (g : DG nf) (dt : DB nf) (dk dv : DT nf) (js : List Nat) : List D → List (Key × D) → EV nf → (List (Key × D) → EV nf → Prop) → Prop
  | [], acc, env, Q => Q acc env
  | x :: xs, acc, env, Q => g x env fun env1 => dt env1 fun b env2 => if b = true then dk env2 fun y env3 => dv env3 fun d env4 => ∃ k, keyOf y = some k ∧ acc.length < 1000000 ∧ dCompD g dt dk dv js xs (putD acc k d) (wipeD env4 js) Q else dCompD g dt dk dv js xs acc (wipeD env2 js) Q
def dDc (di : DAs nf) (g : DG nf) (dt : DB nf) (dk dv : DT nf) (js : List Nat) : DT nf := fun env Q => di env fun ds env1 => dCompD g dt dk dv js ds [] (wipeD env1 js) fun acc env2 => Q (.dct acc) env2
theorem dc_it {J : It} {n : Nat} {G : Hp → Prop} {Y : Nat → Hp → V → Hp → Prop} (w : Walk J n G Y) {g : TG} {tt : TT} {tk tv : TE} {vs : List Nat} {σ : St} {H1 : Hp} {D : Addr} {Qd : Hp → Prop} (Pv : Nat → Hp → Prop) (h0 : Pv 0 (upd H1 D (.dK []))) (hG : ∀ i H, i ≤ n → Pv i H → G H)
    (hs : ∀ i x H H', i < n → Pv i H → Y i H x H' → g x (wipe σ vs) H' fun σ2 H2 => wipe σ2 vs = wipe σ vs ∧ tt σ2 H2 fun b H3 =>
      if b = true then tk σ2 H3 fun y H4 => tv σ2 H4 fun z H5 => ∃ kvs k, y = kV k ∧ H5 D = some (.dK kvs) ∧ kvs.length < sizeLine ∧ Pv (i + 1) (upd H5 D (.dK (putK kvs k z))) else Pv (i + 1) H3) (hd : ∀ H, Pv n H → Qd H) :
    ∃ W : Nat → Nat → Hp → Prop, (∃ m, W 0 m (upd H1 D (.dK []))) ∧ ∀ i m H, W i m H →
      (J.stop i H ∧ Qd H) ∨ (J.go i H ∧ ∃ Nx : Hp → Prop, (∀ H', Nx H' → ∃ m', m' < m ∧ W (i + 1) m' H') ∧ ∀ x H', J.yld i H x H' → g x (wipe σ vs) H' fun σ2 H2 => wipe σ2 vs = wipe σ vs ∧ tt σ2 H2 fun b H3 =>
        if b = true then tk σ2 H3 fun y H4 => tv σ2 H4 fun z H5 => ∃ kvs k, y = kV k ∧ H5 D = some (.dK kvs) ∧ kvs.length < sizeLine ∧ Nx (upd H5 D (.dK (putK kvs k z))) else Nx H3) := by
  refine ⟨fun i m H => m = n - i ∧ i ≤ n ∧ Pv i H, ⟨n, by simp, Nat.zero_le _, h0⟩, ?_⟩
  rintro i m H ⟨rfl, hi, p⟩
  have q := hG i H hi p
  by_cases hlt : i < n
  · refine .inr ⟨w.goes i H hlt q, Pv (i + 1), fun H' p' => ⟨n - (i + 1), by omega, rfl, hlt, p'⟩, fun x H' y => hs i x H H' hlt p (w.yields i H x H' hlt q y)⟩
  · have e : i = n := by omega
    subst e
    exact .inl ⟨w.stops H q, hd H p⟩
theorem wipe_wipe (σ : St) : ∀ js : List Nat, L2.wipe (L2.wipe σ js) js = L2.wipe σ js
  | [] => rfl
  | j :: js => by
    show (L2.wipe ((L2.wipe σ js).set j none) js).set j none = (L2.wipe σ js).set j none
    rw [wipe_out, List.set_set, wipe_wipe σ js]
theorem lift_dc {di : DAs nf} {g : DG nf} {dt : DB nf} {dk dv : DT nf} {js : List Nat} {σ : St} {H : Hp} {Q : VK} {env : EV nf} {fp : List Addr} {Qd : List (Key × D) → EV nf → Prop} (R : EnvR K nf H σ env fp)
    (h : di env fun ds env1 => dCompD g dt dk dv js ds [] (wipeD env1 js) Qd)
    (k : ∀ p vs H' ds env' fp', H p = none → H' p = some (.dK vs) → p ∉ fp' → RelK K nf H' vs ds → EnvR K nf H' σ env' fp' → Ch fp H fp' H' → Qd ds env' → Q (.ref p) H') :
    tDc (liftI K nf di) (liftG K nf js g) (liftB K nf dt) (lift K nf dk) (lift K nf dv) js σ H Q := by
  refine ⟨env, fp, _, R, h, fun J ds H1 env1 fp1 ⟨G, Y, w, hG, hY⟩ R1 c1 q1 => fun Dl hD => ?_⟩
  obtain ⟨fpw, Rw, cw⟩ := R1.wipe js
  have x0 : Xt H1 (upd H1 Dl (.dK [])) := Xt.new hD
  refine dc_it w (fun i H' => ∃ env' fp' vs acc, EnvR K nf H' (L2.wipe σ js) env' fp' ∧ Ch fp1 H1 fp' H' ∧ Dl ∉ fp' ∧ H' Dl = some (.dK vs) ∧ RelK K nf H' vs acc ∧ (∀ j ∈ js, env'[j]? = some .un ∨ env'.length ≤ j) ∧ dCompD g dt dk dv js (ds.drop i) acc env' Qd)
    ⟨_, fpw, [], [], Rw.ext x0, cw.trans x0.ch, (fun m => by obtain ⟨u, e, _⟩ := Rw.trk Dl m; rw [hD] at e; cases e), upd_same, .nil, wipeD_un env1 js, q1⟩
    (fun i H' _ ⟨env', fp', _, _, R', c', _⟩ => hG H' (c'.stp R1)) (fun i x H' H2 hi ⟨env', fp', vs, acc, R', c', nD, hDl, rr, hu, q'⟩ y => ?_) fun H' ⟨env', fp', vs, acc, R', c', nD, hDl, rr, hu, q'⟩ => ?_
  · obtain ⟨xt, d, ed, r⟩ := hY i H' x H2 hi (c'.stp R1) y
    rw [drop_cons ed] at q'
    refine ⟨d, env', fp', _, r, R'.ext xt, q', fun σ2 env2 fp2 hw R2 c2 q2 => ⟨by rw [hw]; exact wipe_wipe σ js, ?_⟩⟩
    have c3 := (c'.trans xt.ch).trans c2
    have nD2 : Dl ∉ fp2 := fun m => by
      rcases (xt.ch.trans c2).sub Dl m with z | z
      · exact nD z
      · rw [hDl] at z; cases z
    have hD2 : H2 Dl = some (.dK vs) := xt _ _ hDl
    refine ⟨env2, fp2, _, R2, q2, fun b H3 env3 fp3 R3 c4 q3 => ?_⟩
    have nD3 : Dl ∉ fp3 := fun m => by
      rcases c4.sub Dl m with z | z
      · exact nD2 z
      · rw [hD2] at z; cases z
    have hD3 : H3 Dl = some (.dK vs) := c4.keep _ _ hD2 nD2
    have st3 : Stp nf H' H3 := xt.stp.trans (c4.stp R2)
    have hw' : L2.wipe σ2 js = L2.wipe σ js := by rw [hw]; exact wipe_wipe σ js
    cases b with
    | true =>
      show lift K nf dk σ2 H3 _
      refine lift_run R3 q3 fun y H4 d4 env4 fp4 r4 R4 c5 q4 => ?_
      have nD4 : Dl ∉ fp4 := fun m => by
        rcases c5.sub Dl m with z | z
        · exact nD3 z
        · rw [hD3] at z; cases z
      have hD4 : H4 Dl = some (.dK vs) := c5.keep _ _ hD3 nD3
      refine lift_run R4 q4 fun v H5 d5 env5 fp5 r5 R5 c6 ⟨kk, ek, hlen, q5⟩ => ?_
      have nD5 : Dl ∉ fp5 := fun m => by
        rcases c6.sub Dl m with z | z
        · exact nD4 z
        · rw [hD4] at z; cases z
      have hD5 : H5 Dl = some (.dK vs) := c6.keep _ _ hD4 nD4
      have ey := key_of r4 ek
      subst ey
      have rr5 : RelK K nf H5 vs acc := rr.mono (st3.trans ((c5.stp R3).trans (c6.stp R4)))
      obtain ⟨fp7, R7, c7⟩ := R5.wipe js
      have nD7 : Dl ∉ fp7 := fun m => by
        rcases c7.sub Dl m with z | z
        · exact nD5 z
        · rw [hD5] at z; cases z
      have st5 : Stp nf H5 (upd H5 Dl (.dK (putK vs kk v))) := fun a u e f => by
        by_cases ha : a = Dl
        · subst ha; rw [hD5] at e; cases e; exact f.elim
        · rw [upd_ne ha]; exact e
      have R8 := R7.frame (H' := upd H5 Dl (.dK (putK vs kk v))) (fun a m => upd_ne fun z => nD7 (z ▸ m)) st5 R1.2 (((((c3.trans c4).trans c5).trans c6).trans c7).put hD)
      rw [hw'] at R8
      refine ⟨vs, kk, rfl, hD5, by rw [rr5.length]; exact Nat.lt_of_lt_of_le hlen (by decide), _, fp7, putK vs kk v, putD acc kk d5, R8, ?_, nD7, upd_same, (rr5.put r5).mono st5, wipeD_un _ _, q5⟩
      have cc := (((c3.trans c4).trans c5).trans c6).trans c7
      exact ⟨fun a u e n => by rw [upd_ne (ne_of_none e hD)]; exact cc.keep a u e n, cc.sub, fun a e => cc.there a (by
        by_cases ha : a = Dl
        · subst ha; rw [upd_same] at e; cases e
        · rw [upd_ne ha] at e; exact e)⟩
    | false =>
      obtain ⟨fp5, R5, c6⟩ := R3.wipe js
      rw [hw'] at R5
      refine ⟨_, fp5, vs, acc, R5, (c3.trans c4).trans c6, fun m => ?_, hD3, rr.mono st3, wipeD_un _ _, q3⟩
      rcases c6.sub Dl m with z | z
      · exact nD3 z
      · rw [hD3] at z; cases z
  · rw [List.drop_length] at q'
    have R7 : EnvR K nf H' σ env' fp' := EnvR.unwipe js R' (wipe_wipe σ js).symm hu
    exact k Dl vs H' acc env' fp' (c1.there Dl hD) hDl nD rr R7 (c1.trans c') q'
section
variable {kx vx tg iter : Expr} {ifs : List Expr} {scope : Scope} {own : List (Str × Nat)} {pos : Pos} {di : DAs nf} {g : DG nf} {dt : DB nf} {de dk : DT nf}
theorem de_dc (hc : X.calm = true) (hN : X.N.Nodup) (hi : DIo X nf tg iter di) (ok : BlkOk X.N X.env.scope scope own)
    (hg : ∀ (s : Shared) (H : Hp) (C : Addr) (cl : List (Str × Addr)) (fp : List Addr), DGo (X.blk s H scope (compEnvC scope cl C X.env) fp) nf tg (own.map (·.2)) g) (ht : ∀ (s : Shared) (H : Hp) (C : Addr) (cl : List (Str × Addr)) (fp : List Addr), PTs (X.blk s H scope (compEnvC scope cl C X.env) fp) ifs (liftB X.K nf dt))
    (hk : ∀ (s : Shared) (H : Hp) (C : Addr) (cl : List (Str × Addr)) (fp : List Addr), DE (X.blk s H scope (compEnvC scope cl C X.env) fp) nf kx dk)
    (he : ∀ (s : Shared) (H : Hp) (C : Addr) (cl : List (Str × Addr)) (fp : List Addr), DE (X.blk s H scope (compEnvC scope cl C X.env) fp) nf vx de) (hs : ∀ x, foldedSetIterable iter X.env x = pure x := by intro _; rfl) :
    DE X nf (.DictComp kx vx [⟨tg, iter, ifs, 0⟩] scope pos) (dDc di g dt dk de (own.map (·.2))) := pe_imp (pe_fz (pe_dc hc hN hi ok hg ht hk he hs)) fun σ H Q ⟨env, fp, Qd, R, h, k⟩ => by
  refine lift_dc R h fun p vs H' ds env' fp' hp hp' np rr R' c q => ⟨p, _, rfl, hp', trivial, fun o => ?_⟩
  have st : Stp nf H' (upd H' p (.frz o (.dK vs))) := fun a u e f => by
    by_cases ha : a = p
    · subst ha; rw [hp'] at e; cases e; exact f.elim
    · rw [upd_ne ha]; exact e
  refine k _ _ _ env' fp' (.dct upd_same (rr.mono st)) (R'.frame (fun a m => upd_ne fun z => np (z ▸ m)) st R.2 (c.put hp)) ⟨fun a u e n => ?_, c.sub, fun a e => ?_⟩ q
  · rw [upd_ne (ne_of_none e hp)]; exact c.keep a u e n
  · by_cases ha : a = p
    · subst ha; rw [upd_same] at e; cases e
    · rw [upd_ne ha] at e; exact c.there a e
end
/-! ### texts by their methods, slices -/
section
variable {o e : Expr} {da db : DT nf} {apos pos : Pos}
def dSplit (da db : DT nf) : DT nf := fun env Q => da env fun x env1 => ∃ a, x = .str a ∧ db env1 fun y env2 => ∃ b, y = .str b ∧ (b.length == 0) = false ∧ a.length + 2 ≤ 1000000 ∧ Q (.lst ((Txt.split a b).map .str)) env2
theorem de_split (ho : DE X nf o da) (he : DE X nf e db) (hs : starEach [e] X.env = [(false, eval e X.env)] := by rfl) (hbase : attributeBase o "split" X.env (eval o X.env) = eval o X.env := by rfl) (hline : (apos.endLine == pos.line) = true := by rfl) :
    DE X nf (.Call (.Attribute o "split" apos) [e] [] pos) (dSplit da db) := pe_imp (pe_fz (pe_split ho he hs hbase hline)) fun σ H Q ⟨env, fp, Qd, R, h, k⟩ => by
  refine lift_run R h fun v H1 x env1 fp1 r1 R1 c1 ⟨a, ex, h1⟩ => ?_
  subst ex
  cases r1
  refine ⟨⟨a, rfl⟩, lift_run R1 h1 fun w H2 y env2 fp2 r2 R2 c2 ⟨b, ey, hb, hl, q⟩ => ?_⟩
  subst ey
  cases r2
  refine ⟨a, b, rfl, rfl, hb, Nat.le_trans hl (by decide), fun p hp => ⟨p, _, rfl, upd_same, trivial, fun ob => ?_⟩⟩
  have x : Xt H2 (upd (upd H2 p (.lst ((Txt.split a b).map V.str))) p (.frz ob (.lst ((Txt.split a b).map V.str)))) := xt_fz (Xt.new hp) hp
  exact k _ _ _ env2 fp2 (.lst ⟨ob, upd_same⟩ ((strs_rels _).mono x.stp)) (R2.ext x) ((c1.trans c2).trans x.ch) q
def dJoin (da db : DT nf) : DT nf := fun env Q => da env fun x env1 => ∃ a, x = .str a ∧ db env1 fun y env2 => ∃ ys : List Str, (y = .lst (ys.map .str) ∨ y = .tup (ys.map .str)) ∧ (ys.map (·.length)).sum + ys.length * a.length ≤ 1000000 ∧ Q (.str (Txt.join a ys)) env2
theorem de_join (ho : DE X nf o da) (he : DE X nf e db) (hs : starEach [e] X.env = [(false, eval e X.env)] := by rfl) (hbase : attributeBase o "join" X.env (eval o X.env) = eval o X.env := by rfl) (hline : (apos.endLine == pos.line) = true := by rfl) :
    DE X nf (.Call (.Attribute o "join" apos) [e] [] pos) (dJoin da db) := pe_imp (pe_join ho he hs hbase hline) fun σ H Q ⟨env, fp, Qd, R, h, k⟩ => by
  refine lift_run R h fun v H1 x env1 fp1 r1 R1 c1 ⟨a, ex, h1⟩ => ?_
  subst ex
  cases r1
  refine ⟨⟨a, rfl⟩, lift_run R1 h1 fun w H2 y env2 fp2 r2 R2 c2 ⟨ys, ey, hl, q⟩ => ?_⟩
  rcases ey with rfl | rfl
  · cases r2 with
    | lst hz rr =>
      have ew := rels_strs rr
      subst ew
      exact ⟨a, _, ys, rfl, rfl, .inl hz.sq, Nat.le_trans hl (by decide), k _ H2 _ env2 fp2 (.str _) R2 (c1.trans c2) q⟩
  · cases r2 with
    | tup hz rr =>
      have ew := rels_strs rr
      subst ew
      exact ⟨a, _, ys, rfl, rfl, .inr hz, Nat.le_trans hl (by decide), k _ H2 _ env2 fp2 (.str _) R2 (c1.trans c2) q⟩
/-! slices -/
abbrev DO (nf : Addr → Nat) := EV nf → (Option Int → EV nf → Prop) → Prop
def liftO (K : PySem.W.Frag) (nf : Addr → Nat) (td : DO nf) : TO := fun σ H Q => ∃ env fp Qd, EnvR K nf H σ env fp ∧ td env Qd ∧ ∀ o H' env' fp', EnvR K nf H' σ env' fp' → Ch fp H fp' H' → Qd o env' → Q o H'
theorem po_imp {e : Option Expr} {t t' : TO} (h : PO X e t) (i : ∀ σ H Q, t' σ H Q → t σ H Q) : PO X e t' := ⟨fun pins s σ H Q I q => h.run pins s σ H Q I (i σ H Q q)⟩
def oNone : DO nf := fun env Q => Q none env
def oSome (a : DT nf) : DO nf := fun env Q => a env fun x env1 => ∃ i, x = .int i ∧ Q (some i) env1
theorem do_none : PO X none (liftO X.K nf oNone) := po_imp po_none fun σ H Q ⟨env, fp, Qd, R, q, k⟩ => k none H env fp R Ch.refl q
theorem do_some {e : Expr} {a : DT nf} (h : DE X nf e a) : PO X (some e) (liftO X.K nf (oSome a)) := po_imp (po_some h) fun σ H Q ⟨env, fp, Qd, R, q, k⟩ => lift_run R q fun v H1 x env1 fp1 r1 R1 c1 ⟨i, ex, q1⟩ => by
  subst ex
  exact ⟨i, rel_int r1, k (some i) H1 env1 fp1 R1 c1 q1⟩
def dSlS (da : DT nf) (lo hi : DO nf) : DT nf := fun env Q => da env fun x env1 => lo env1 fun l env2 => hi env2 fun u env3 => ∃ z, x = .str z ∧ z.length ≤ 1000000 ∧ Q (.str (cutS z l u)) env3
theorem de_slS {lo hi : Option Expr} {dl dh : DO nf} {p2 : Pos} (ha : DE X nf e da) (hl : PO X lo (liftO X.K nf dl)) (hh : PO X hi (liftO X.K nf dh)) : DE X nf (.Subscript e (.Slice lo hi none p2) pos) (dSlS da dl dh) := pe_imp (pe_slice sl_str ha hl hh) fun σ H Q ⟨env, fp, Qd, R, h, k⟩ =>
  lift_run R h fun v H1 x env1 fp1 r1 R1 c1 h1 => ⟨env1, fp1, _, R1, h1, fun l H2 env2 fp2 R2 c2 h2 => ⟨env2, fp2, _, R2, h2, fun u H3 env3 fp3 R3 c3 ⟨z, ex, hz, q⟩ => by
    subst ex
    exact ⟨z, rel_str r1, sz_ok hz, k _ H3 _ env3 fp3 (.str _) R3 ((c1.trans c2).trans c3) q⟩⟩⟩
def dSlL (da : DT nf) (lo hi : DO nf) : DT nf := fun env Q => da env fun x env1 => lo env1 fun l env2 => hi env2 fun u env3 => ∃ xs, x = .lst xs ∧ Q (.lst ((xs.drop (HT.sIx xs.length 0 l)).take (HT.sIx xs.length xs.length u - HT.sIx xs.length 0 l))) env3
theorem de_slL {lo hi : Option Expr} {dl dh : DO nf} {p2 : Pos} (ha : DE X nf e da) (hl : PO X lo (liftO X.K nf dl)) (hh : PO X hi (liftO X.K nf dh)) : DE X nf (.Subscript e (.Slice lo hi none p2) pos) (dSlL da dl dh) := pe_imp (pe_fz (pe_slice sl_list ha hl hh)) fun σ H Q ⟨env, fp, Qd, R, h, k⟩ =>
  lift_run R h fun v H1 x env1 fp1 r1 R1 c1 h1 => ⟨env1, fp1, _, R1, h1, fun l H2 env2 fp2 R2 c2 h2 => ⟨env2, fp2, _, R2, h2, fun u H3 env3 fp3 R3 c3 ⟨xs, ex, q⟩ => by
    subst ex
    cases r1 with
    | @lst a vs _ hz rr =>
      have st : Stp nf H1 H3 := (c2.stp R1).trans (c3.stp R2)
      refine ⟨a, vs, rfl, (hz.mono st).sq, fun p hp => ⟨p, _, rfl, upd_same, trivial, fun o => ?_⟩⟩
      have x : Xt H3 (upd (upd H3 p (.lst (cutV vs l u))) p (.frz o (.lst (cutV vs l u)))) := xt_fz (Xt.new hp) hp
      have rc : Rels X.K nf H3 (cutV vs l u) ((xs.drop (HT.sIx xs.length 0 l)).take (HT.sIx xs.length xs.length u - HT.sIx xs.length 0 l)) := by
        unfold cutV
        rw [rr.length]
        exact ((rr.mono st).drop _).take _
      exact k _ _ _ env3 fp3 (.lst ⟨o, upd_same⟩ (rc.mono x.stp)) (R3.ext x) (((c1.trans c2).trans c3).trans x.ch) q⟩⟩
/-! list + list, of anything that is read -/
theorem op_catR : OpR X (binaryOp .Add) (fun x y H Q => ∃ l b xs zs, x = .ref l ∧ y = .ref b ∧ Rd H l (.lst xs) ∧ Rd H b (.lst zs) ∧ xs.length + zs.length ≤ sizeLine ∧ ∀ p, H p = none → Q (.ref p) (upd H p (.lst (xs ++ zs)))) := by
  intro pins s σ H x y v u Q I rx ry h
  obtain ⟨l, b, xs, zs, rfl, rfl, hH, hB, hz, q⟩ := h
  cases rx
  cases ry
  obtain ⟨_, its, n, r, e⟩ := hH.ok I.hok
  obtain ⟨_, its2, n2, r2, e2⟩ := hB.ok I.hok
  have g1 := r.length
  have g2 := r2.length
  refine PySem.P.add_list e e2 ?_ (by rw [List.size_toArray, List.size_toArray]; omega)
  have ea : its.toArray ++ its2.toArray = (its ++ its2).toArray := by simp
  rw [ea]
  exact ⟨.ref _, _, I.lnew (t' := s.toks) (r.append r2) (by rw [List.length_append]; omega), rfl, q _ I.fresh⟩
def fCatL : D → D → D → Prop := fun x y z => ∃ xs ys, x = .lst xs ∧ y = .lst ys ∧ xs.length + ys.length ≤ 1000000 ∧ z = .lst (xs ++ ys)
def dCatL (da db : DT nf) : DT nf := dOp fCatL da db
theorem de_catL {a b : Expr} (ha : DE X nf a da) (hb : DE X nf b db) : DE X nf (.BinOp a .Add b pos) (dCatL da db) := pe_imp (pe_fz (pe_op op_catR ha hb)) fun σ H Q h =>
  lift_op (r := fun x y H1 Q => (∃ l b xs zs, x = .ref l ∧ y = .ref b ∧ Rd H1 l (.lst xs) ∧ Rd H1 b (.lst zs) ∧ xs.length + zs.length ≤ sizeLine ∧ ∀ p, H1 p = none → (fun v H' => ∃ p u, v = .ref p ∧ H' p = some u ∧ Mut (some u) ∧ ∀ o, Q v (upd H' p (.frz o u))) (.ref p) (upd H1 p (.lst (xs ++ zs))))) (by
    rintro H v w x y z r1 r2 ⟨xs, ys, rfl, rfl, hl, rfl⟩ Q q
    cases r1 with
    | @lst a vs _ h1 rr1 =>
      cases r2 with
      | @lst b ws _ h2 rr2 =>
        refine ⟨a, b, vs, ws, rfl, rfl, h1.rd, h2.rd, by rw [rr1.length, rr2.length]; exact sz_ok hl, fun p hp => ⟨p, _, rfl, upd_same, trivial, fun o => ?_⟩⟩
        have x : Xt H (upd (upd H p (.lst (vs ++ ws))) p (.frz o (.lst (vs ++ ws)))) := xt_fz (Xt.new hp) hp
        exact q _ _ (.lst ⟨o, upd_same⟩ ((rr1.append rr2).mono x.stp)) x) σ H Q h
end
end
end DL

namespace DL
open PySem L2
section
variable [Anch] {X : Cx} {nf : Addr → Nat} {K : PySem.W.Frag}
/-! ### an own object on the way: made, its fields stored -/
def insA (K : PySem.W.Frag) (nf : Addr → Nat) (C : Addr) (fds : List (Str × D)) : OA nf where
  inv v fp H := ∃ p dx fs, v = .ref p ∧ fp = [p] ∧ H p = some (.ins C dx fs) ∧ fs.length < nf C ∧ RelF K nf H fs fds
  frame := by
    rintro v fp H H' ⟨p, dx, vs, e1, e2, hp, hl, r⟩ k st
    subst e2
    exact ⟨p, dx, vs, e1, rfl, by rw [k p (List.mem_singleton.mpr rfl)]; exact hp, hl, r.mono st⟩
  trk := by
    rintro v fp H ⟨p, dx, vs, e1, e2, hp, hl, r⟩ a m
    subst e2
    rw [List.mem_singleton.mp m]
    exact ⟨_, hp, fun z => by have := z.2; omega⟩
  nd := by
    rintro v fp H ⟨p, dx, vs, e1, e2, hp, hl, r⟩
    subst e2
    simp
section
variable {CX : CXT} {k n : Nat} {f C : Addr} {fd : FuncData} {ps : List Str} {S : SpD nf} {dvs : List V} {dds : List D} {ds : List Value} {E : XK} {x m : Str} {p pos apos : Pos} {e o : Expr} {es : List Expr} {r : DM nf} {da : DT nf}
def dMake (K : PySem.W.Frag) (n : Nat) (C : Addr) (S : SpD nf) (dds : List D) (r : DM nf) : DT nf := fun env Q => r env fun ads env1 => ads.length + dds.length + 1 = n ∧ 0 < nf C ∧ (slotsOf (ads ++ dds.map AD.v)).Nodup ∧ (∀ i ∈ slotsOf (ads ++ dds.map AD.v), i < env1.length) ∧
  ∀ y, S (.ow (.ref y) (insA K nf C []) :: (ads ++ dds.map AD.v).map (resolve env1)) fun d as' => d = .non ∧ ∃ fds rest, as' = .fr (.ref y) (.obj C fds) :: rest ∧ Q (.obj C fds) (putBack env1 (ads ++ dds.map AD.v) rest)
theorem make_run {σ : St} {H : Hp} {Q : VK} {env : EV nf} {fp : List Addr} {vs : List V} {ads : List AD} {Qd : D → EV nf → Prop} (R : EnvR K nf H σ env fp) (M : ArgsM K nf H σ vs ads) (hn : ads.length + 1 = n) (h0 : 0 < nf C)
    (nd : (slotsOf ads).Nodup) (hin : ∀ i ∈ slotsOf ads, i < env.length) (s : ∀ y, S (.ow (.ref y) (insA K nf C []) :: ads.map (resolve env)) fun d as' => d = .non ∧ ∃ fds rest, as' = .fr (.ref y) (.obj C fds) :: rest ∧ Qd (.obj C fds) (putBack env ads rest))
    (k : ∀ v H' d env' fp', Rel K nf H' v d → EnvR K nf H' σ env' fp' → Ch fp H fp' H' → Qd d env' → Q v H') :
    ∀ y dx, H y = none → H dx = none → dx ≠ y → toSp K nf n S (.ref y :: vs) (upd (upd H dx (.own y)) y (.ins C dx [])) (fun v H2 => v = .non ∧ Q (.ref y) H2) E := by
  intro y dx hy hdx hne
  obtain ⟨fpa, RA, put⟩ := R.args M nd hin
  have xt : Xt H (upd (upd H dx (.own y)) y (.ins C dx [])) := fun a u e => by
    rw [upd_ne (ne_of_none e hy), upd_ne (ne_of_none e hdx)]; exact e
  have nyA : y ∉ fpa := fun z => by obtain ⟨u, e, _⟩ := RA.trk y z; rw [hy] at e; cases e
  refine ⟨by rw [List.length_cons, M.len, hn], .ow (.ref y) (insA K nf C []) :: ads.map (resolve env), [y] ++ fpa, _, by rw [List.length_cons, List.length_map, hn], .cons ⟨rfl, y, dx, [], rfl, rfl, upd_same, h0, .nil⟩ (RA.ext xt) (fun a m => by rw [List.mem_singleton.mp m]; exact nyA), s y, fun v H' d as' fp' hl r R' c q => ?_⟩
  obtain ⟨ed, fds, rest, ea, q⟩ := q
  subst ed ea
  refine ⟨rel_non r, ?_⟩
  cases R' with
  | @cons _ _ _ _ f1 f2 hs hr hd =>
    obtain ⟨e1, _, rel⟩ := hs
    subst e1
    have c1 : Ch fpa H f2 H' := ⟨fun a u e na => c.keep a u (xt a u e) fun z => by
      rcases List.mem_append.mp z with z | z
      · rw [List.mem_singleton.mp z, hy] at e; cases e
      · exact na z, fun a m => by
      rcases c.sub a (List.mem_append_right _ m) with z | z
      · rcases List.mem_append.mp z with z | z
        · rw [List.mem_singleton.mp z]; exact .inr hy
        · exact .inl z
      · exact .inr ((xt.ch (fp := fpa)).there a z), fun a e => (xt.ch (fp := fpa)).there a (c.there a e)⟩
    obtain ⟨fp2, R2, c2, _⟩ := put H' rest f2 (by rw [List.length_cons] at hl; omega) hr c1
    exact k _ H' _ _ fp2 rel R2 c2 q
theorem lift_make (hdd : ∀ H, Rels K nf H dvs dds) (σ : St) (H : Hp) (Q : VK) (h : lift K nf (dMake K n C S dds r) σ H Q) : tMake C (toSp K nf n S) dvs E (liftM K nf r) σ H Q := by
  obtain ⟨env, fp, Qd, R, h, k⟩ := h
  refine ⟨env, fp, _, R, h, fun vs H1 ads env1 fp1 r1 R1 c1 ⟨hl, h0, nd, hin, s⟩ => ?_⟩
  exact make_run R1 (r1.app id (hdd H1)) (by rw [List.length_append, List.length_map]; exact hl) h0 nd hin s fun v H' d env' fp' r' R' c' q => k v H' d env' fp' r' R' (c1.trans c') q
theorem de_make (M : Mk X.K C f) (F : FnOk X.prog X.w X.K X.mg X.base CX k f fd ps (toSp X.K nf n S)) (hr : Room (k + 1) X.A) (hg : Gl X x) (hm : X.mg x = some (.ref C)) (hb : Binds X.K fd ps ds) (hd : Vals dvs ds) (hdd : ∀ H, Rels X.K nf H dvs dds) (hx : Passes CX X E)
    (ha : DAM X nf (e :: es) r) (hdb : (x == ("__debug__" : Str)) = false := by decide) (he : starEach (e :: es) X.env = (false, eval e X.env) :: starEach es X.env := by rfl) (hpl : (backTo pos (starEach es X.env)).any (·.1) = false := by rfl) :
    DE X nf (.Call (.Name x p) (e :: es) [] pos) (dMake X.K n C S dds r) := pe_imp (pe_make M F hr hg hm hb hd hx ha hdb he hpl) (lift_make hdd)
theorem de_make0 (M : Mk X.K C f) (F : FnOk X.prog X.w X.K X.mg X.base CX k f fd ps (toSp X.K nf n S)) (hr : Room (k + 1) X.A) (hg : Gl X x) (hm : X.mg x = some (.ref C)) (hb : Binds X.K fd ps ds) (hd : Vals dvs ds) (hdd : ∀ H, Rels X.K nf H dvs dds) (hx : Passes CX X E)
    (hdb : (x == ("__debug__" : Str)) = false := by decide) : DE X nf (.Call (.Name x p) [] [] pos) (dMake X.K n C S dds mNil) := pe_imp (pe_make0 M F hr hg hm hb hd hx hdb) fun σ H Q h => by
  obtain ⟨env, fp, Qd, R, ⟨hl, h0, nd, hin, s⟩, k⟩ := h
  exact make_run (E := E) (ads := [] ++ dds.map AD.v) R ((ArgsM.nil).app id (hdd H)) (by rw [List.length_append, List.length_map]; exact hl) h0 nd hin s k
/-- self.f = e: self an object on the way -/
def sFldS (K : PySem.W.Frag) (C : Addr) (i : Nat) (m : Str) (dv : DT nf) : DTS nf := fun De env => dv env fun d env1 => ∃ v fds, env1[i]? = some (.ow v (insA K nf C fds)) ∧ fds.lookup m = none ∧ fds.length < 999 ∧
  (fds.length + 1 < nf C → De.nx (env1.set i (.ow v (insA K nf C (fds ++ [(m, d)]))))) ∧ (fds.length + 1 = nf C → De.nx (env1.set i (.fr v (.obj C (fds ++ [(m, d)])))))
theorem RelF.length : ∀ {H : Hp} {fs : List (Str × V)} {fds : List (Str × D)}, RelF K nf H fs fds → fs.length = fds.length
  | _, _, _, .nil => rfl
  | _, _, _, .cons _ r => by rw [List.length_cons, List.length_cons, RelF.length r]
theorem RelF.snoc {H : Hp} {m : Str} {v : V} {d : D} (h : Rel K nf H v d) : ∀ {fs : List (Str × V)} {fds : List (Str × D)}, RelF K nf H fs fds → fds.lookup m = none → RelF K nf H (putF m v fs) (fds ++ [(m, d)])
  | _, _, .nil, _ => .cons h .nil
  | _, _, @RelF.cons _ _ _ k v' vs d' ds h' r, e => by
    rw [List.lookup_cons] at e
    split at e
    · cases e
    · rename_i hk
      have hne : ¬ k = m := fun z => by subst z; simp at hk
      show RelF K nf H (if k = m then (k, v) :: vs else (k, v') :: putF m v vs) ((k, d') :: (ds ++ [(m, d)]))
      rw [if_neg hne]
      exact .cons h' (RelF.snoc h r e)
theorem ds_fldS {i : Nat} {value : Expr} {dv : DT nf} {pos' : Pos} (ho : PE X o (tVar i)) (hv : DE X nf value dv) (c : Cls X.K C) (hn : NoAttr X.K C m) (hs : swapsWith value (some (.Attribute o m pos')) pos.line X.env = pure false := by rfl) : DS X nf (.Assign [.Attribute o m pos'] value pos) (sFldS X.K C i m dv) :=
  ps_imp (ps_fld ho hv hs) fun E σ H ⟨env, fp, De, R, q, br⟩ => lift_run R q fun w H1 d env1 fp1 r1 R1 c1 ⟨v, fds, ei, hl0, h9, q1, q2⟩ => by
    obtain ⟨ov, fi, e1, ⟨eo, p, dx, fs, ev, ef, hp, hlt, rf⟩, sub, rep⟩ := R1.at ei
    subst eo ev ef
    have hl := rf.length
    have es : σ.set i (some (.ref p)) = σ := by
      obtain ⟨h1, h2⟩ := List.getElem?_eq_some_iff.mp e1
      rw [← h2]
      exact List.set_getElem_self h1
    have nfz : ∀ a u, H1 a = some u → Fzn nf u → a ≠ p := fun a u h f z => by
      subst z; rw [hp] at h; cases h
      have := f.2
      omega
    have stp : Stp nf H1 (upd H1 p (.ins C dx (putF m w fs))) := fun a u h f => by rw [upd_ne (nfz a u h f)]; exact h
    have kp : ∀ a u, H1 a = some u → a ∉ [p] → upd H1 p (.ins C dx (putF m w fs)) a = some u := fun a u h n => by
      rw [upd_ne (fun z => n (by rw [z]; exact List.mem_singleton.mpr rfl))]; exact h
    have ch : ∀ fp', (∀ a ∈ fp', a ∈ fp1 ∨ H1 a = none) → Ch fp1 H1 fp' (upd H1 p (.ins C dx (putF m w fs))) := fun fp' sub' => ⟨fun a u h n => by
      rw [upd_ne (fun z => n (by rw [z]; exact sub p (List.mem_singleton.mpr rfl)))]; exact h, sub', fun a h => by
      by_cases ha : a = p
      · subst ha; rw [upd_same] at h; cases h
      · rw [upd_ne ha] at h; exact h⟩
    have rf2 : RelF X.K nf (upd H1 p (.ins C dx (putF m w fs))) (putF m w fs) (fds ++ [(m, d)]) := (RelF.snoc r1 rf hl0).mono stp
    have hl2 : (putF m w fs).length = fds.length + 1 := by rw [rf2.length, List.length_append]; rfl
    refine ⟨_, e1, p, C, dx, fs, rfl, hp, c, hn, by omega, ?_⟩
    by_cases hm : fds.length + 1 < nf C
    · obtain ⟨fp', R', sub'⟩ := rep _ (some (.ref p)) (.ow (.ref p) (insA X.K nf C (fds ++ [(m, d)]))) [p] ⟨rfl, p, dx, _, rfl, rfl, upd_same, by omega, rf2⟩ kp (fun a m => .inl m) stp
      rw [es] at R'
      exact br.nx σ _ _ fp' (R1.re R' (ch fp' sub')) (c1.trans (ch fp' sub')) (q1 hm)
    · have hm' : fds.length + 1 = nf C := by omega
      obtain ⟨fp', R', sub'⟩ := rep _ (some (.ref p)) (.fr (.ref p) (.obj C (fds ++ [(m, d)]))) [] ⟨rfl, rfl, .obj upd_same (by omega) (by omega) rf2⟩ kp (fun a m => by cases m) stp
      rw [es] at R'
      exact br.nx σ _ _ fp' (R1.re R' (ch fp' sub')) (c1.trans (ch fp' sub')) (q2 hm')
end
/-! ### own operators -/
open PySem.W PySem.Calls PyProof.Rows in
theorem binT_looks {prog : Program} {w : World} {A : Around} {E : Value → Shared → Prop} {s : Shared} {K : Frag} {x C L f : Addr} {h₀ : Heap} {m : Str → Option Value} {ox : Obj} {od : Option Obj} {T : String} {op : Operator} {b : Value} {fo ro rc : Option Value} {Q : Value → Shared → Prop} (F : Fr h₀ L s.heap m) (X₀ : K.In h₀) (I : InstAt s.heap x ox C od) (hb : Looks (model prog w) s.heap (typeOf b) (.type T)) (hc : selfFirst K C = true)
    (hs : findIn K (.ref C) (PySem.dunder op.info.2) = some (some (.ref f))) (hf : isFn K (.ref f) = true) (hr : findIn K (.ref C) (dunderR op.info.2) = some rc) (hp : rc = none ∨ ∃ g : Addr, rc = some (.ref g))
    (h1 : findIn K (.type T) (PySem.dunder op.info.2) = some fo) (h2 : findIn K (.type T) (dunderR op.info.2) = some ro) (hsub : subIn K (.type T) (.ref C) = some false)
    (h : wpAny (model prog w) A (call (.ref f) [.ref x, b]) (PySem.W.CmpBack Q) E s) : wpAny (model prog w) A (binaryOp op (.ref x) b) Q E s := by
  have X := X₀.keeps F.keep
  obtain ⟨cd, rest, hcd, hm⟩ := ksp_first hc
  rcases hi : op.info with ⟨sym, nm'⟩
  rw [hi] at hs hr h1 h2
  dsimp only at hs hr h1 h2
  have one := ksp_try X I hs hf h
  obtain ⟨hh, g, d, tt, os⟩ := s
  have L1 : Looks (model prog w) hh (typeOf (.ref x)) (.ref C) := I.type
  have L2 : Looks (model prog w) hh (typeOf b) (.type T) := hb
  have L3 : Looks (model prog w) hh (fillsNumberSlot (.ref C) nm') true := fills_K X hcd hm hs
  have L4 : Looks (model prog w) hh (fillsNumberSlot (.type T) nm') ((fo.isSome && !isSeqSlot fo) || (ro.isSome && !isSeqSlot ro)) := ksp_fillsT X h1 h2
  have L5 : Looks (model prog w) hh (isSubtype (.type T) (.ref C)) false := looks_subIn X hsub
  have L6 : Looks (model prog w) hh (numberSlotInPython (.ref C) nm') true := ksp_inPy X hs hr hp
  have L7 : Looks (model prog w) hh (numberSlotInPython (.type T) nm') false := Looks.of_pure rfl
  have L8 : Looks (model prog w) hh (typeLookup (.type T) (dunderR nm')) ro := looks_findIn X h2
  generalize ((fo.isSome && !isSeqSlot fo) || (ro.isSome && !isSeqSlot ro)) = right at L4
  have hne : (Value.ref C == Value.type T) = false := Bool.eq_false_iff.mpr fun q => by cases beq_iff_eq.mp q
  simp only [binaryOp, hi]
  refine wpAny_holding (wpAny_bind ?_)
  unfold binaryOp1
  refine wpAny_bind (L1.at (wpAny_bind (L2.at (wpAny_bind (L3.at ?_)))))
  simp only [hne, Bool.false_eq_true, if_false]
  cases right with
  | false =>
    ksp_lk
    refine wpAny_mono one (fun r s' hr' => ?_) fun _ _ e => e
    obtain ⟨v, rfl, hq⟩ := hr'
    ksp_lk
    exact hq
  | true =>
    ksp_lk
    refine wpAny_mono one (fun r s' hr' => ?_) fun _ _ e => e
    obtain ⟨v, rfl, hq⟩ := hr'
    ksp_lk
    exact hq
end
end DL

namespace DL
open PySem
section
variable {prog : Program} {w : World} {K : Type} [DecidableEq K] {knd : KeyKind prog w K} {A : Around} {E : Value → Shared → Prop} {s : Shared}
theorem wpAny_dictPut_pairs {d : Addr} {kvs : List (K × Value)} {k : K} {key v : Value} {Q : Unit → Shared → Prop} (hkey : knd.is k key = true) (hm : s.heap.DictOf knd d kvs)
    (hQ : ∀ h', h'.DictOf knd d (stored kvs k v) → Heap.SameBut d s.heap h' → Q () { s with heap := h' })
    (hsz : kvs.length ≤ sizeLine := by size_fits) :
    wpAny (model prog w) A (dictPut d (knd.hash k) key v) Q E s := by
  obtain ⟨o, es, ep, ho, hc, hd, hk, hp, hn⟩ := hm
  have hes : es.size ≤ sizeLine := by have e1 := hp.length; have e2 : es.toList.length = es.size := by simp
                                      omega
  unfold dictPut
  refine wpAny_bind (wpAny_dictFind_of hkey ho hd hk ?_)
  have hidx : (es.findIdx? fun e => knd.is k e.key) = kvs.findIdx? fun kv => decide (kv.1 = k) := by
    rw [← hp.findIdx k]; obtain ⟨l⟩ := es; simp
  cases hi : es.findIdx? fun e => knd.is k e.key with
  | some i =>
    refine (wpAny_updateDict ho hd (hQ _ ⟨_, _, ep, Heap.get?_update_self _ ho (Obj.isFreed_of_dict (Obj.data_mapDict hd _)),
      hc.mapDict _, Obj.data_mapDict hd _, hk.modify _ _, ?_, ?_⟩ (Heap.SameBut.update ..)))
    · rw [stored, if_pos (any_of_findIdx_some (hidx ▸ hi))]
      have hl : (es.toList.findIdx? fun e => knd.is k e.key) = some i := by rw [← hi]; obtain ⟨l⟩ := es; simp
      have := hp.modify hn hl v
      obtain ⟨l⟩ := es
      simpa using this
    · rw [stored, if_pos (any_of_findIdx_some (hidx ▸ hi)), keys_map_store]; exact hn
  | none =>
    have hnot : k ∉ kvs.map (·.1) := not_mem_of_findIdx_none (hidx ▸ hi)
    have hany : ¬ (kvs.any fun kv => decide (kv.1 = k)) = true := by
      rw [List.any_eq_true]; rintro ⟨kv, hkv, he⟩
      exact hnot (List.mem_map.mpr ⟨kv, hkv, of_decide_eq_true he⟩)
    refine (wpAny_updateDictKeys (hz := hes) ho hd (hQ _ ⟨_, _, ep + 1, Heap.get?_update_self _ ho (Obj.isFreed_of_dict (Obj.data_mapDictKeys hd _)),
      hc.mapDictKeys _, Obj.data_mapDictKeys hd _, hk.push hkey _, ?_, ?_⟩ (Heap.SameBut.update ..)))
    · rw [stored, if_neg hany]
      have := hp.append hkey (knd.hash k) v
      obtain ⟨l⟩ := es
      simpa using this
    · rw [stored, if_neg hany, List.map_append, List.nodup_append]
      refine ⟨hn, by simp, ?_⟩
      intro a ha b hb
      simp only [List.map_cons, List.map_nil, List.mem_singleton] at hb
      subst hb
      exact fun e => hnot (e ▸ ha)
theorem wpAny_mergeMapping {d o : Addr} {kvs more : List (K × Value)} {Q : Unit → Shared → Prop} (hdo : d ≠ o) (hoS : (o == sysModules) = false)
    (hd : s.heap.DictOf knd d kvs) (ho : s.heap.DictOf knd o more) (hkr : ∀ k v, knd.is k v = true → ∀ a, v ≠ .ref a)
    (hQ : ∀ h', h'.DictOf knd d (merged kvs more) → h'.DictOf knd o more → Heap.SameBut d s.heap h' → Q () { s with heap := h' })
    (hsz : kvs.length + more.length ≤ sizeLine := by size_fits) :
    wpAny (model prog w) A (mergeMapping d (.ref o) false) Q E s := by
  obtain ⟨od, esd, epd, hod, hcd, hdd, hkd, hpd, hnd⟩ := id hd
  obtain ⟨oo, eso, epo, hoo, hco, hdo', hko, hpo, hno⟩ := id ho
  have hlen : more.length = eso.size := by rw [← hpo.length]; simp
  unfold mergeMapping
  refine wpAny_bind (wpAny_isInstance ho.typeIs isSubtype_dict_dict ?_)
  rw [if_pos rfl]
  refine wpAny_bind (wpAny_specialOf ho.typeIs PySem.F.slot_dict_iter.lookup ?_)
  dsimp only
  simp only [beq_self_eq_true]
  refine wpAny_bind (wpAny_pure ?_)
  dsimp only
  rw [if_neg (by rw [hoS]; exact Bool.false_ne_true)]
  refine wpAny_bind (wpAny_dictEntries hod hdd ?_)
  have loop : wpAny (model prog w) A (do
      let l ← dictEntries o
      let epoch ← dictEpoch o
      forIn (List.range l.size) PUnit.unit fun i (_ : PUnit) => (do
          let l' ← dictEntries o
          match l'[i]? with
            | some e => do
              holding [e.key, e.val] (dictPut d e.hash e.key e.val)
              let ep' ← dictEpoch o
              if (ep' != epoch) = true then do
                  (unsupported "dict.changed-during-merge" : Sem PUnit)
                  pure (ForInStep.yield PUnit.unit)
                else pure (ForInStep.yield PUnit.unit)
            | _ => do
              (unsupported "dict.changed-during-merge" : Sem PUnit)
              pure (ForInStep.yield PUnit.unit) : Sem (ForInStep PUnit))
      pure ()) Q E s := by
    refine wpAny_bind (wpAny_dictEntries hoo hdo' ?_)
    refine wpAny_bind (wpAny_dictEpoch hoo hdo' ?_)
    refine wpAny_bind ?_
    rw [List.range_eq_range']
    refine wpAny_forIn_list _
      (fun rest _ s' => ∃ h' i, s' = { s with heap := h' } ∧ rest = List.range' i (eso.size - i) ∧ i ≤ eso.size ∧ h'.DictOf knd d (merged kvs (more.take i)) ∧ h'.get? o = some oo ∧ Heap.SameBut d s.heap h')
      _ ?_ ?_ _ _ ⟨s.heap, 0, rfl, by simp, Nat.zero_le _, by simpa [merged] using hd, hoo, Heap.SameBut.refl _ _⟩
    · rintro x rest b s' ⟨h', i, rfl, hr, hi, hd', hoo', hs'⟩
      have hlt : i < eso.size := by
        rcases Nat.lt_or_ge i eso.size with h | h
        · exact h
        · rw [Nat.sub_eq_zero_of_le h] at hr; simp at hr
      obtain ⟨rfl, hrest⟩ : x = i ∧ rest = List.range' (i + 1) (eso.size - (i + 1)) := by
        have e : eso.size - i = (eso.size - (i + 1)) + 1 := by omega
        rw [e, List.range'_succ] at hr
        injection hr with h1 h2
        exact ⟨h1, h2⟩
      refine wpAny_bind (wpAny_dictEntries hoo' hdo' ?_)
      rw [Array.getElem?_eq_getElem hlt]
      obtain ⟨kv, hkv⟩ : ∃ kv, more[x]? = some kv := ⟨more[x]'(by rw [hlen]; exact hlt), List.getElem?_eq_getElem _⟩
      obtain ⟨k, v⟩ := kv
      obtain ⟨hkey, hval⟩ := hpo.get? (e := eso[x]) (by simp [hlt]) hkv
      obtain ⟨k', hkey', hhash⟩ := hko eso[x] (Array.getElem_mem hlt)
      obtain rfl : k' = k := knd.inj _ _ _ hkey' hkey
      show wpAny _ _ (holding [eso[x].key, eso[x].val] (dictPut d eso[x].hash eso[x].key eso[x].val) >>= _) _ _ _
      rw [hhash, hval]
      have hmx : (merged kvs (more.take x)).length ≤ sizeLine := by
        have e1 := merged_length_le kvs (more.take x)
        have e2 : (more.take x).length ≤ more.length := by rw [List.length_take]; omega
        omega
      refine wpAny_bind (wpAny_holding (wpAny_dictPut_pairs (hsz := hmx) hkey hd' fun h'' hd'' hs'' => ?_))
      have hoo'' : h''.get? o = some oo := (hs''.2 o (Ne.symm hdo)).trans hoo'
      refine wpAny_bind (wpAny_dictEpoch hoo'' hdo' ?_)
      rw [if_neg (by simp)]
      exact wpAny_pure ⟨h'', x + 1, rfl, hrest, hlt, by rw [merged_take_succ kvs more x (k', v) hkv]; exact hd'', hoo'', hs'.trans hs''⟩
    · rintro b s' ⟨h', i, rfl, hr, hi, hd', hoo', hs'⟩
      have hin : i = eso.size := by
        rcases Nat.lt_or_ge i eso.size with h | h
        · have e : eso.size - i = (eso.size - (i + 1)) + 1 := by omega
          rw [e, List.range'_succ] at hr; exact nomatch hr
        · exact Nat.le_antisymm hi h
      refine wpAny_pure (hQ h' ?_ ⟨oo, eso, epo, hoo', hco, hdo', hko, hpo, hno⟩ hs')
      rw [hin, ← hlen, List.take_length] at hd'; exact hd'
  split
  · refine wpAny_bind (wpAny_dictEntries hoo hdo' ?_)
    refine wpAny_bind ?_
    rw [← Array.forIn_toList]
    refine wpAny_forIn_list _ (fun rest _ s' => s' = s ∧ ∀ e ∈ rest, e ∈ eso) _ ?_ ?_ _ _ ⟨rfl, fun e m => Array.mem_toList_iff.mp m⟩
    · rintro e rest b s' ⟨rfl, hm⟩
      obtain ⟨k, hk, _⟩ := hko e (hm e List.mem_cons_self)
      have nr := hkr k e.key hk
      split
      · rename_i a ea; exact absurd ea (nr a)
      · exact wpAny_pure ⟨rfl, fun e m => hm e (List.mem_cons_of_mem _ m)⟩
    · rintro b s' ⟨rfl, _⟩
      exact loop
  · exact loop
end

def mergeW (d : Addr) (m : Value) : Sem Unit :=
  (((holding [.ref d, m] (mergeMapping d m false)).onRaise fun x => do let _ ← holding [.ref d, m, x] (runValue (.builtin "proto.let_go" {}))).tryCatch fun e => do
        if ← isInstance e (.type "AttributeError") then
          rule "dict.display.not-a-mapping"; raiseError "TypeError" s!"'{← typeNameOf m}' object is not a mapping"
        throw e).onRaise fun x => do let _ ← holding [.ref d, x] (runValue (.builtin "proto.let_go" {}))
theorem display2 (va vb : Sem Value) : dictDisplay [(none, va), (none, vb)] = (do
    let d ← alloc { cls := .type "dict", data := .dict #[] }
    let m ← holding [.ref d] va
    mergeW d m
    let m2 ← holding [.ref d] vb
    mergeW d m2
    pure (.ref d)) := by
  unfold dictDisplay mergeW
  simp
open L2
section
variable [Anch] {X : Cx} {nf : Addr → Nat} {K : PySem.W.Frag}
theorem mix_noref {P : Program} {w : World} (k : Key) (v : Value) (h : (mixKind P w).is k v = true) (a : Addr) : v ≠ .ref a := by
  rcases keyIs_shape h with ⟨i, t, _, rfl⟩ | ⟨x, t, _, rfl⟩
  · exact fun z => by cases z
  · exact fun z => by cases z
theorem mergeW_run {pins : List (Addr × Obj)} {s : Shared} {σ : St} {H : Hp} {p a : Addr} {k1 k2 : List (Key × V)} {Q : Unit → Shared → Prop} (I : Inv X pins σ H s) (hp : H p = some (.dK k1)) (ha : Rd H a (.dK k2)) (hne : p ≠ a) (hz : k1.length + k2.length ≤ sizeLine)
    (h : ∀ s', Inv X pins σ (upd H p (.dK (mergeK k1 k2))) s' → Q () s') : wpAny (model X.prog X.w) X.A (mergeW p (.ref a)) Q X.xe s := by
  obtain ⟨z1, lo1, vs1, rel1, dd1⟩ := dk_of I.hok hp
  obtain ⟨z2, lo2, vs2, rel2, dd2⟩ := dk_rd I.hok ha
  unfold mergeW
  refine wpAny_onRaise (wpAny_tryCatch (wpAny_onRaise (wpAny_holding ?_)))
  refine wpAny_mergeMapping (knd := mixKind X.prog X.w) hne lo2 dd1 dd2 mix_noref (fun h' d' o' hs => ?_) (by rw [← rel1.length, ← rel2.length]; exact hz)
  have hz2 : (mergeK k1 k2).length ≤ sizeLine := Nat.le_trans (length_mergeK k2 k1) hz
  have he : ∃ q, h'.get? p = some q := let ⟨q, _, _, hq, _⟩ := d'; ⟨q, hq⟩
  exact h _ (d_write (t' := s.toks) I (by rw [hp]; exact True.intro) hs he (dk_new hz2 lo1 (rel2.merge rel1) d'))
/-- {**a, **b} -/
def tDS2 (ta tb : TE) : TE := fun σ H Q => ∀ p, H p = none → ta σ (upd H p (.dK [])) fun x H1 => H1 p = some (.dK []) ∧ ∃ a k1, x = .ref a ∧ p ≠ a ∧ Rd H1 a (.dK k1) ∧
  tb σ (upd H1 p (.dK (mergeK [] k1))) fun y H2 => H2 p = some (.dK (mergeK [] k1)) ∧ ∃ b k2, y = .ref b ∧ p ≠ b ∧ Rd H2 b (.dK k2) ∧ (mergeK [] k1).length + k2.length ≤ sizeLine ∧ Q (.ref p) (upd H2 p (.dK (mergeK (mergeK [] k1) k2)))
theorem pe_ds2 {a b : Expr} {pos : Pos} {ta tb : TE} (ha : PE X a ta) (hb : PE X b tb) : PE X (.Dict [none, none] [a, b] pos) (tDS2 ta tb) := by
  refine ⟨fun pins s σ H Q I q => ?_⟩
  rw [arm_eval_Dict]
  show wpAny _ _ (standAt pos >>= fun _ => dictDisplay [(none, do let x ← eval a X.env; standAt pos; pure x), (none, do let x ← eval b X.env; standAt pos; pure x)]) _ _ _
  rw [display2]
  have hn := I.hok.fresh (Nat.le_refl s.heap.objs.size)
  have I1 := I.laid (a := s.heap.objs.size) (o := .dK []) (h' := s.heap.push { cls := .type "dict", data := .dict #[] }) (t' := s.toks) (fun _ _ q => Heap.get?_push_of_some _ q) (Nat.le_refl _) (dk_empty s.heap I.big)
  refine wpAny_bind (wpAny_standAt (wpAny_bind (wpAny_alloc ?_)))
  refine wpAny_bind (wpAny_holding (wpAny_bind (thn (ha.run pins _ σ _ _ I1 (q _ hn)) fun v s1 ⟨x, H1, J1, rx, hp1, a1, k1, ex, n1, r1, q1⟩ => ?_)))
  subst ex
  cases rx
  refine wpAny_bind (wpAny_standAt (wpAny_pure ?_))
  have z1 := (dk_rd J1.hok r1).1
  refine wpAny_bind (mergeW_run J1 hp1 r1 n1 (by rw [List.length_nil]; omega) fun s2 J2 => ?_)
  refine wpAny_bind (wpAny_holding (wpAny_bind (thn (hb.run pins _ σ _ _ J2 q1) fun v s3 ⟨y, H3, J3, ry, hp3, b1, k2, ey, n2, r3, hz, q3⟩ => ?_)))
  subst ey
  cases ry
  refine wpAny_bind (wpAny_standAt (wpAny_pure ?_))
  refine wpAny_bind (mergeW_run J3 hp3 r3 n2 hz fun s4 J4 => ?_)
  exact wpAny_pure ⟨.ref s.heap.objs.size, _, J4, rfl, q3⟩
def mergeD (kds more : List (Key × D)) : List (Key × D) := more.foldl (fun acc kv => putD acc kv.1 kv.2) kds
theorem RelK.merge {H : Hp} : ∀ {more : List (Key × V)} {md : List (Key × D)} {kvs : List (Key × V)} {kds : List (Key × D)}, RelK K nf H more md → RelK K nf H kvs kds → RelK K nf H (mergeK kvs more) (mergeD kds md)
  | _, _, _, _, .nil, q => q
  | _, _, kvs, kds, @RelK.cons _ _ _ k v vs d ds h r, q => by
    show RelK K nf H (mergeK (putK kvs k v) vs) (mergeD (putD kds k d) ds)
    exact RelK.merge r (q.put h)
theorem mergeD_len : ∀ (more kds : List (Key × D)), (mergeD kds more).length ≤ kds.length + more.length
  | [], kds => by show kds.length ≤ kds.length + 0; omega
  | p :: r, kds => by
    have h1 := mergeD_len r (putD kds p.1 p.2)
    have h2 := putD_len kds p.1 p.2
    show (mergeD (putD kds p.1 p.2) r).length ≤ _
    rw [List.length_cons]; omega
/-- {**a, **b}, frozen -/
def dDS2 (da db : DT nf) : DT nf := fun env Q => da env fun x env1 => ∃ k1, x = .dct k1 ∧ db env1 fun y env2 => ∃ k2, y = .dct k2 ∧ k1.length + k2.length ≤ 1000000 ∧ Q (.dct (mergeD (mergeD [] k1) k2)) env2
theorem de_ds2 {a b : Expr} {pos : Pos} {da db : DT nf} (ha : DE X nf a da) (hb : DE X nf b db) : DE X nf (.Dict [none, none] [a, b] pos) (dDS2 da db) := pe_imp (pe_fz (pe_ds2 ha hb)) fun σ H Q ⟨env, fp, Qd, R, h, k⟩ p hp => by
  have x0 : Xt H (upd H p (.dK [])) := Xt.new hp
  have np : ∀ {H0 : Hp} {f : List Addr}, H0 p = none → (∃ env : EV nf, ∃ σ, EnvR X.K nf H0 σ env f) → p ∉ f := fun h0 ⟨env, σ, R⟩ m => by
    obtain ⟨u, e, _⟩ := R.trk p m
    rw [h0] at e; cases e
  have nfp := np hp ⟨env, σ, R⟩
  refine lift_run (R.ext x0) h fun v H1 d1 env1 fp1 r1 R1 c1 ⟨k1, e1, h1⟩ => ?_
  subst e1
  have hp1 : H1 p = some (.dK []) := c1.keep p _ upd_same nfp
  have nfp1 : p ∉ fp1 := fun m => by
    rcases c1.sub p m with z | z
    · exact nfp z
    · rw [upd_same] at z; cases z
  refine ⟨hp1, ?_⟩
  cases r1 with
  | @dct a ob kvs _ hq rr =>
    have na : p ≠ a := fun z => by subst z; rw [hp1] at hq; cases hq
    refine ⟨a, kvs, rfl, na, .inr ⟨ob, hq⟩, ?_⟩
    have up : ∀ {G : Hp} {u u' : HO}, G p = some u → ¬ Fzn nf u → Stp nf G (upd G p u') := fun {G u u'} hG nz b w e f => by
      by_cases hb : b = p
      · subst hb; rw [hG] at e; cases e; exact absurd f nz
      · rw [upd_ne hb]; exact e
    have up1 : Stp nf H1 (upd H1 p (.dK (mergeK [] kvs))) := up hp1 (fun z => z)
    have R1' : EnvR X.K nf (upd H1 p (.dK (mergeK [] kvs))) σ env1 fp1 := R1.frame (fun b m => upd_ne fun z => nfp1 (z ▸ m)) up1 R.2 ((x0.ch.trans c1).put hp)
    refine lift_run R1' h1 fun w H2 d2 env2 fp2 r2 R2 c2 ⟨k2, e2, hl, q⟩ => ?_
    subst e2
    have hp2 : H2 p = some (.dK (mergeK [] kvs)) := c2.keep p _ upd_same nfp1
    have nfp2 : p ∉ fp2 := fun m => by
      rcases c2.sub p m with z | z
      · exact nfp1 z
      · rw [upd_same] at z; cases z
    refine ⟨hp2, ?_⟩
    cases r2 with
    | @dct b ob2 kvs2 _ hq2 rr2 =>
      have nb : p ≠ b := fun z => by subst z; rw [hp2] at hq2; cases hq2
      have rr1 : RelK X.K nf H2 kvs k1 := (rr.mono up1).mono (c2.stp R1')
      have l1 := rr1.length
      have l2 := rr2.length
      have l3 := length_mergeK kvs []
      rw [List.length_nil] at l3
      refine ⟨b, kvs2, rfl, nb, .inr ⟨ob2, hq2⟩, Nat.le_trans (by omega) (sz_ok hl), p, _, rfl, upd_same, trivial, fun o => ?_⟩
      rw [upd_upd]
      have up2 : Stp nf H2 (upd H2 p (.frz o (.dK (mergeK (mergeK [] kvs) kvs2)))) := up hp2 (fun z => z)
      have CC : Ch fp H fp2 (upd H2 p (.frz o (.dK (mergeK (mergeK [] kvs) kvs2)))) := ?_
      · exact k _ _ _ env2 fp2 (.dct upd_same ((rr2.merge (rr1.merge .nil)).mono up2)) (R2.frame (fun b m => upd_ne fun z => nfp2 (z ▸ m)) up2 R.2 CC) CC q
      refine ⟨fun c u e n => ?_, fun c m => ?_, fun c e => ?_⟩
      · have nc : c ≠ p := ne_of_none e hp
        rw [upd_ne nc]
        refine c2.keep c u (by rw [upd_ne nc]; exact c1.keep c u (x0 c u e) n) fun m => ?_
        rcases c1.sub c m with z | z
        · exact n z
        · rw [x0 c u e] at z; cases z
      · rcases c2.sub c m with z | z
        · rcases c1.sub c z with y | y
          · exact .inl y
          · exact .inr ((x0.ch (fp := fp)).there c y)
        · have nc : c ≠ p := fun y => by subst y; rw [upd_same] at z; cases z
          rw [upd_ne nc] at z
          exact .inr ((x0.ch (fp := fp)).there c (c1.there c z))
      · have nc : c ≠ p := fun y => by subst y; rw [upd_same] at e; cases e
        rw [upd_ne nc] at e
        have e2 := c2.there c e
        rw [upd_ne nc] at e2
        exact (x0.ch (fp := fp)).there c (c1.there c e2)
end
end DL

namespace DL
open PySem L2
section
open PySem.W PySem.Calls PyProof.Rows
variable {prog : Program} {w : World} {A : Around} {E : Value → Shared → Prop} {s : Shared} {K : Frag} {x C L f g : Addr} {h₀ : Heap} {m : Str → Option Value} {ox : Obj} {od : Option Obj}
theorem dict_or_declines {a x : Addr} {Q : Value → Shared → Prop} (hT : s.TypeIs (.ref a) "dict") (hn : Looks (model prog w) s.heap (isInstance (.ref x) (.type "dict")) false) (h : Q .notImplemented s) :
    wpAny (model prog w) A (call (.builtin "dict.__or__") [.ref a, .ref x]) Q E s := by
  refine call_meetsIn PySem.F.slot_dict_or hT PySem.F.entry_dict_or (PySem.F.args_dict_or_2 _ _) (S := fun _ R s' => s' = s ∧ R (.ok (.ret .notImplemented)) s) (.of_wp fun A R s' ⟨es, hr⟩ => ?_) ⟨rfl, h⟩
  subst es
  unfold Builtin.«dict.__or__»
  have e : (Builtin.Dict.dictSlotArgs "__or__" ⟨[.ref a, .ref x], []⟩ : Sem (Value × Value)) = pure (.ref a, .ref x) := by
    unfold Builtin.Dict.dictSlotArgs Builtin.Dict.notOrdered slotArgs
    simp
  rw [e]
  simp only [pure_bind]
  show wpAny _ _ ((isInstance (.ref a) (.type "dict") <&&> isInstance (.ref x) (.type "dict")) >>= _) _ _ _
  refine wpAny_bind ?_
  show wpAny _ _ (isInstance (.ref a) (.type "dict") >>= _) _ _ _
  refine wpAny_bind (wpAny_isInstance hT isSubtype_dict_dict ?_)
  show wpAny _ _ (isInstance (.ref x) (.type "dict")) _ _ _
  refine hn.here ?_
  exact wpAny_bind (wpAny_rule (wpAny_bind (wpAny_pure (wpAny_pure ⟨_, rfl, hr⟩))))
/-- the left a dict, the right of an own class that reflects -/
theorem binR_dict {a x : Addr} {Q : Value → Shared → Prop} (F : Fr h₀ L s.heap m) (X₀ : K.In h₀) (I : InstAt s.heap x ox C od) (hT : s.TypeIs (.ref a) "dict") (hc : selfFirst K C = true)
    (hs : findIn K (.ref C) (PySem.dunder "or") = some (some (.ref f))) (hr : findIn K (.ref C) (dunderR "or") = some (some (.ref g))) (hf : isFn K (.ref g) = true) (hsub : subIn K (.ref C) (.type "dict") = some false)
    (h : wpAny (model prog w) A (call (.ref g) [.ref x, .ref a]) (PySem.W.CmpBack Q) E s) : wpAny (model prog w) A (binaryOp .BitOr (.ref a) (.ref x)) Q E s := by
  have X := X₀.keeps F.keep
  obtain ⟨cd, rest, hcd, hm⟩ := ksp_first hc
  have one := ksp_try X I hr hf h
  have two : wpAny (model prog w) A (tryMethod (.ref a) (PySem.dunder "or") (.ref x)) (fun r s' => r = none ∧ s' = s) E s :=
    wpAny_tryMethod_declines hT PySem.F.slot_dict_or (dict_or_declines hT (I.type.andThen (looks_subIn X hsub)) ⟨rfl, rfl, rfl⟩)
  have L1 : Looks (model prog w) s.heap (typeOf (.ref x)) (.ref C) := I.type
  have L3 : Looks (model prog w) s.heap (fillsNumberSlot (.ref C) "or") true := fills_K X hcd hm hs
  have L5 : Looks (model prog w) s.heap (isSubtype (.ref C) (.type "dict")) false := looks_subIn X hsub
  have hne : (Value.type "dict" == Value.ref C) = false := Bool.eq_false_iff.mpr fun q => by cases beq_iff_eq.mp q
  unfold binaryOp
  refine wpAny_holding (wpAny_bind ?_)
  show wpAny _ _ (binaryOp1 "or" _ _) _ _ _
  unfold binaryOp1
  refine wpAny_bind (wpAny_typeOf hT (wpAny_bind (L1.here (wpAny_bind (wpAny_of_eq PySem.F.fills_dict_or ?_)))))
  simp only [hne, Bool.false_eq_true, if_false]
  refine wpAny_bind (L3.here ?_)
  simp only [Bool.and_self, if_true]
  refine wpAny_bind (L5.here ?_)
  have hpy : numberSlotInPython (.type "dict") "or" = pure false := rfl
  simp only [Bool.false_eq_true, if_false, pure_bind, Bool.not_false, Bool.and_self, if_true, hpy]
  refine wpAny_bind (wpAny_mono two (fun r s' hq => ?_) fun _ _ e => e)
  obtain ⟨rfl, rfl⟩ := hq
  dsimp only
  refine wpAny_bind (wpAny_mono one (fun r s' hr' => ?_) fun _ _ e => e)
  obtain ⟨v, rfl, hq⟩ := hr'
  exact wpAny_bind (wpAny_rule (wpAny_pure (wpAny_pure hq)))
end

section
variable [Anch] {X : Cx} {nf : Addr → Nat} {K : PySem.W.Frag} {CX : CXT} {k : Nat} {f C : Addr} {fd : FuncData} {ps : List Str} {sp : Sp} {E : XK} {op : Operator}
theorem cmpBack_of {pins : List (Addr × Obj)} {σ : St} {Q : VK} {u : Value} {s' : Shared} (h : EP X pins σ Q u s') : PySem.W.CmpBack (EP X pins σ Q) u s' := by
  obtain ⟨v, H', I, r, q⟩ := id h
  cases v with
  | non => have r : u = _ := r; subst r; exact h
  | bl b => have r : u = _ := r; subst r; exact h
  | int i => obtain ⟨t, r⟩ := r; subst r; exact h
  | str i => obtain ⟨t, r⟩ := r; subst r; exact h
  | byt i => obtain ⟨t, r⟩ := r; subst r; exact h
  | flt i => obtain ⟨t, r⟩ := r; subst r; exact h
  | ref a => have r : u = _ := r; subst r; exact h
  | ty a => have r : u = _ := r; subst r; exact h
theorem rv_ref (a : Addr) : RelV (.ref a) (.ref a) := rfl
/-- an own class has the operator -/
structure OpC (K : PySem.W.Frag) (C : Addr) (nm : String) (f : Addr) : Prop where
  sf : PySem.W.selfFirst K C = true
  hs : PySem.W.findIn K (.ref C) (PySem.dunder nm) = some (some (.ref f))
  hf : PySem.W.isFn K (.ref f) = true
structure OpT (K : PySem.W.Frag) (C : Addr) (nm T : String) (rc fo ro : Option Value) : Prop where
  hr : PySem.W.findIn K (.ref C) (dunderR nm) = some rc
  hp : rc = none ∨ ∃ g : Addr, rc = some (.ref g)
  h1 : PySem.W.findIn K (.type T) (PySem.dunder nm) = some fo
  h2 : PySem.W.findIn K (.type T) (dunderR nm) = some ro
  hsub : PySem.W.subIn K (.type T) (.ref C) = some false
structure OpRd (K : PySem.W.Frag) (C : Addr) (f g : Addr) : Prop where
  sf : PySem.W.selfFirst K C = true
  hs : PySem.W.findIn K (.ref C) (PySem.dunder "or") = some (some (.ref f))
  hr : PySem.W.findIn K (.ref C) (dunderR "or") = some (some (.ref g))
  hf : PySem.W.isFn K (.ref g) = true
  hsub : PySem.W.subIn K (.ref C) (.type "dict") = some false
theorem op_own (F : FnOk X.prog X.w X.K X.mg X.base CX k f fd ps sp) (hr : Room k X.A) (hb : Binds X.K fd ps []) (hx : Passes CX X E) (o : OpC X.K C op.info.2 f) :
    OpR X (binaryOp op) (fun x y H Q => (∃ a b dx dy fs gs, x = .ref a ∧ y = .ref b ∧ H a = some (.ins C dx fs) ∧ H b = some (.ins C dy gs)) ∧ sp [x, y] H Q E) := by
  intro pins s σ H x y v u Q I rx ry ⟨⟨a, b, dx, dy, fs, gs, ex, ey, ha, hb'⟩, h⟩
  subst ex ey
  cases rx; cases ry
  obtain ⟨m, hF⟩ := I.fr
  obtain ⟨mA, O, _⟩ := ins_get I.hok ha
  obtain ⟨mB, O2, _⟩ := ins_get I.hok hb'
  obtain ⟨od, J, _⟩ := O.look
  obtain ⟨od2, J2, _⟩ := O2.look
  refine PySem.W.binop_K hF I.mod.kin J J2.type o.sf o.hs o.hf ?_
  exact wpAny_mono (run_fn F hr hb .nil hx I (.cons (rv_ref _) (.cons (rv_ref _) .nil)) h) (fun _ _ q => cmpBack_of q) fun _ _ e => e
theorem op_ownD (F : FnOk X.prog X.w X.K X.mg X.base CX k f fd ps sp) (hr : Room k X.A) (hb : Binds X.K fd ps []) (hx : Passes CX X E) {rc fo ro : Option Value} (o : OpC X.K C op.info.2 f) (t : OpT X.K C op.info.2 "dict" rc fo ro) :
    OpR X (binaryOp op) (fun x y H Q => (∃ a b dx fs kvs, x = .ref a ∧ y = .ref b ∧ H a = some (.ins C dx fs) ∧ Rd H b (.dK kvs)) ∧ sp [x, y] H Q E) := by
  intro pins s σ H x y v u Q I rx ry ⟨⟨a, b, dx, fs, kvs, ex, ey, ha, hb'⟩, h⟩
  subst ex ey
  cases rx; cases ry
  obtain ⟨m, hF⟩ := I.fr
  obtain ⟨mA, O, _⟩ := ins_get I.hok ha
  obtain ⟨od, J, _⟩ := O.look
  obtain ⟨_, _, vs, _, dd⟩ := dk_rd I.hok hb'
  obtain ⟨ob, es, ep, h1, h2, _⟩ := id dd
  refine binT_looks hF I.mod.kin J (T := "dict") ?_ o.sf o.hs o.hf t.hr t.hp t.h1 t.h2 t.hsub ?_
  · exact h2.1 ▸ (PySem.W.Looks.ld h1).andThen .now
  · exact wpAny_mono (run_fn F hr hb .nil hx I (.cons (rv_ref _) (.cons (rv_ref _) .nil)) h) (fun _ _ q => cmpBack_of q) fun _ _ e => e
theorem op_dOwn {g : Addr} (F : FnOk X.prog X.w X.K X.mg X.base CX k g fd ps sp) (hr : Room k X.A) (hb : Binds X.K fd ps []) (hx : Passes CX X E) (o : OpRd X.K C f g) :
    OpR X (binaryOp .BitOr) (fun x y H Q => (∃ a b dx fs kvs, x = .ref a ∧ y = .ref b ∧ H b = some (.ins C dx fs) ∧ Rd H a (.dK kvs)) ∧ sp [y, x] H Q E) := by
  intro pins s σ H x y v u Q I rx ry ⟨⟨a, b, dx, fs, kvs, ex, ey, ha, hb'⟩, h⟩
  subst ex ey
  cases rx; cases ry
  obtain ⟨m, hF⟩ := I.fr
  obtain ⟨mA, O, _⟩ := ins_get I.hok ha
  obtain ⟨od, J, _⟩ := O.look
  obtain ⟨_, _, vs, _, dd⟩ := dk_rd I.hok hb'
  refine binR_dict hF I.mod.kin J dd.typeIs o.sf o.hs o.hr o.hf o.hsub ?_
  exact wpAny_mono (run_fn F hr hb .nil hx I (.cons (rv_ref _) (.cons (rv_ref _) .nil)) h) (fun _ _ q => cmpBack_of q) fun _ _ e => e
/-- x op y by a method of x or of y (rev) -/
def dOwnOp (rev : Bool) (P : D → D → Prop) (S : SpD nf) (da db : DT nf) : DT nf := fun env Q => da env fun x env1 => db env1 fun y env2 => P x y ∧ S (if rev then [.fz y, .fz x] else [.fz x, .fz y]) fun d _ => Q d env2
theorem lift_own {rev : Bool} {P : D → D → Prop} {S : SpD nf} {da db : DT nf} {r : R2} (hr : ∀ H v w x y Q, Rel K nf H v x → Rel K nf H w y → P x y → toSp K nf 2 S (if rev then [w, v] else [v, w]) H Q E → r v w H Q) (σ : St) (H : Hp) (Q : VK) (h : lift K nf (dOwnOp rev P S da db) σ H Q) :
    tOp r (lift K nf da) (lift K nf db) σ H Q := by
  obtain ⟨env, fp, Qd, R, h, k⟩ := h
  refine lift_run R h fun v H1 x env1 fp1 r1 R1 c1 h1 => ?_
  refine lift_run R1 h1 fun w H2 y env2 fp2 r2 R2 c2 ⟨hP, hS⟩ => ?_
  have r1' := r1.mono (c2.stp R1)
  have pb : ∀ (x y : D) as', putBack env2 [.v x, .v y] as' = env2 := fun x y as' => by
    cases as' with
    | nil => simp [putBack]
    | cons s as' =>
      cases as' with
      | nil => simp [putBack]
      | cons s2 as2 => simp [putBack]
  refine hr H2 v w x y Q r1' r2 hP ?_
  cases rev with
  | false => exact sp_run (ads := [.v x, .v y]) R2 (.val r1' (.val r2 .nil)) rfl List.nodup_nil (fun i m => by cases m) (by simp only [pb]; exact hS) fun u H3 d env3 fp3 r3 R3 c3 q => k u H3 d env3 fp3 r3 R3 ((c1.trans c2).trans c3) q
  | true => exact sp_run (ads := [.v y, .v x]) R2 (.val r2 (.val r1' .nil)) rfl List.nodup_nil (fun i m => by cases m) (by simp only [pb]; exact hS) fun u H3 d env3 fp3 r3 R3 c3 q => k u H3 d env3 fp3 r3 R3 ((c1.trans c2).trans c3) q
def isO (C : Addr) (d : D) : Prop := ∃ fs, d = .obj C fs
def isDct (d : D) : Prop := ∃ ks, d = .dct ks
variable {a b : Expr} {pos : Pos} {da db : DT nf} {S : SpD nf}
theorem de_own (F : FnOk X.prog X.w X.K X.mg X.base CX k f fd ps (toSp X.K nf 2 S)) (hr : Room k X.A) (hb : Binds X.K fd ps []) (hx : Passes CX X E) (o : OpC X.K C op.info.2 f) (ha : DE X nf a da) (hb' : DE X nf b db) :
    DE X nf (.BinOp a op b pos) (dOwnOp false (fun x y => isO C x ∧ isO C y) S da db) := pe_imp (pe_op (op_own F hr hb hx o) ha hb') (lift_own fun H v w x y Q r1 r2 ⟨⟨fs, e1⟩, ⟨gs, e2⟩⟩ h => by
  subst e1 e2
  cases r1 with
  | obj h1 _ _ _ =>
    cases r2 with
    | obj h2 _ _ _ => exact ⟨⟨_, _, _, _, _, _, rfl, rfl, h1, h2⟩, h⟩)
theorem de_ownD (F : FnOk X.prog X.w X.K X.mg X.base CX k f fd ps (toSp X.K nf 2 S)) (hr : Room k X.A) (hb : Binds X.K fd ps []) (hx : Passes CX X E) {rc fo ro : Option Value} (o : OpC X.K C op.info.2 f) (t : OpT X.K C op.info.2 "dict" rc fo ro) (ha : DE X nf a da) (hb' : DE X nf b db) :
    DE X nf (.BinOp a op b pos) (dOwnOp false (fun x y => isO C x ∧ isDct y) S da db) := pe_imp (pe_op (op_ownD F hr hb hx o t) ha hb') (lift_own fun H v w x y Q r1 r2 ⟨⟨fs, e1⟩, ⟨gs, e2⟩⟩ h => by
  subst e1 e2
  cases r1 with
  | obj h1 _ _ _ =>
    cases r2 with
    | dct h2 _ => exact ⟨⟨_, _, _, _, _, rfl, rfl, h1, .inr ⟨_, h2⟩⟩, h⟩)
theorem de_dOwn {g : Addr} (F : FnOk X.prog X.w X.K X.mg X.base CX k g fd ps (toSp X.K nf 2 S)) (hr : Room k X.A) (hb : Binds X.K fd ps []) (hx : Passes CX X E) (o : OpRd X.K C f g) (ha : DE X nf a da) (hb' : DE X nf b db) :
    DE X nf (.BinOp a .BitOr b pos) (dOwnOp true (fun x y => isDct x ∧ isO C y) S da db) := pe_imp (pe_op (op_dOwn F hr hb hx o) ha hb') (lift_own fun H v w x y Q r1 r2 ⟨⟨fs, e1⟩, ⟨gs, e2⟩⟩ h => by
  subst e1 e2
  cases r1 with
  | dct h1 _ =>
    cases r2 with
    | obj h2 _ _ _ => exact ⟨⟨_, _, _, _, _, rfl, rfl, h2, .inr ⟨_, h1⟩⟩, h⟩)
end
end DL

namespace DL
open PySem L2
section
variable [Anch] {X : Cx} {nf : Addr → Nat} {K : PySem.W.Frag}
/-- {} , frozen -/
def dD0 : DT nf := fun env Q => Q (.dct []) env
theorem de_d0 {pos : Pos} : DE X nf (.Dict [] [] pos) dD0 := pe_imp (pe_fz pe_dnewK) fun σ H Q ⟨env, fp, Qd, R, q, k⟩ p hp => ⟨p, _, rfl, upd_same, trivial, fun o => by
  have x : Xt H (upd (upd H p (.dK [])) p (.frz o (.dK []))) := xt_fz (Xt.new hp) hp
  exact k _ _ _ env fp (.dct upd_same .nil) (R.ext x) x.ch q⟩
/-! names of the module, of the builtins -/
theorem de_gint {x : Str} {i : Int} {t : _} {pos : Pos} (hg : Gl X x) (hm : X.mg x = some (.int i t)) (hd : (x == ("__debug__" : Str)) = false := by decide) : DE X nf (.Name x pos) (dC (.int i)) := de_c (v := .int i) (pe_glob hg hm ⟨t, rfl⟩ hd) fun _ => .int i
theorem de_gstr {x : Str} {i : Str} {t : _} {pos : Pos} (hg : Gl X x) (hm : X.mg x = some (.str i t)) (hd : (x == ("__debug__" : Str)) = false := by decide) : DE X nf (.Name x pos) (dC (.str i)) := de_c (v := .str i) (pe_glob hg hm ⟨t, rfl⟩ hd) fun _ => .str i
theorem de_gref {x : Str} {a : Addr} {pos : Pos} (hg : Gl X x) (hm : X.mg x = some (.ref a)) (hd : (x == ("__debug__" : Str)) = false := by decide) : DE X nf (.Name x pos) (dC (.cls a)) := de_c (v := .ref a) (pe_glob hg hm rfl hd) fun _ => .cls a
theorem de_bty {x : Str} {T : String} {pos : Pos} (hg : Gl X x) (hm : X.mg x = none) (hv : bootBuiltins x = some (.type T)) (hn : x ≠ "__name__" := by decide) (hd : (x == ("__debug__" : Str)) = false := by decide) : DE X nf (.Name x pos) (dC (.ty T)) :=
  de_c (v := .ty T) (pe_bltn hg hm hv rfl hn hd) fun _ => .ty T
theorem de_gany {x : Str} {p : Addr} {d : D} {pos : Pos} (hg : Gl X x) (hm : X.mg x = some (.ref p)) (r : ∀ H, Rel X.K nf H (.ref p) d) (hd : (x == ("__debug__" : Str)) = false := by decide) : DE X nf (.Name x pos) (dC d) := de_c (v := .ref p) (pe_glob hg hm rfl hd) r
/-! list(d.items()) -/
def rItemsR : V → Hp → VK → Prop := fun x H Q => ∃ (d : Addr) (kvs : List (Key × V)), x = .ref d ∧ Rd H d (.dK kvs) ∧
  ∀ (H' : Hp) (p : Addr) (ts : List Addr), (∀ b o, H b = some o → H' b = some o) → H p = none → (∀ t ∈ ts, H t = none) → p ∉ ts → H' p = some (.lst (ts.map V.ref)) → Paired (fun (t : Addr) (q : Key × V) => H' t = some (.tup [kV q.1, q.2])) ts kvs → Q (.ref p) H'
open LiI PyProof.Rows PySem.Spec in
theorem pe_listItemsR {e : Expr} {te : TE} {p apos cpos pos : Pos} (hc : X.calm = true) (he : PE X e te) (hg : Gl X "list") (hm : X.mg "list" = none) (hbase : attributeBase e "items" X.env (eval e X.env) = eval e X.env := by rfl) (hline : (apos.endLine == cpos.line) = true := by rfl)
    (hs : starEach [.Call (.Attribute e "items" apos) [] [] cpos] X.env = (false, eval (.Call (.Attribute e "items" apos) [] [] cpos) X.env) :: starEach [] X.env := by rfl) :
    PE X (.Call (.Name "list" p) [.Call (.Attribute e "items" apos) [] [] cpos] [] pos) (fun σ H Q => te σ H fun x H1 => rItemsR x H1 Q) := by
  refine ⟨fun pins s σ H Q I hq => ?_⟩
  refine wpAny_Call_Name_kw (ld_blt I hg hm (by decide +kernel : bootBuiltins "list" = some (.type "list")) ?_)
  refine PyProof.Rows.callWith_type1 ?_ hs rfl
  rw [hs]
  show wpAny _ _ (spliced ((false, eval (.Call (.Attribute e "items" apos) [] [] cpos) X.env) :: backTo pos (starEach [] X.env))) _ _ s
  refine Calls.spliced_cons ?_
  refine wpAny_Call_method (T := "dict") (id := "dict.items") hbase rfl hline F.plainAttrs_dict F.slot_dict_items F.type_dict_items (thn (he.run pins s σ H _ I hq) fun u s1 ⟨x, H1, I1, rx, d, kvs, ex, hd, q⟩ => ?_)
  subst ex
  obtain rfl : u = Value.ref d := rx
  obtain ⟨hz, hs0, vs, kv, hdo⟩ := dk_rd I1.hok hd
  obtain ⟨ep, hat⟩ := hdo.dictAt
  have lk : kvs.length = vs.length := Paired.length kv
  have I2 : Inv X pins σ H1 { s1 with heap := s1.heap.push { cls := .type "dict_items", data := .fields #[.ref d] } } := I1.kept (t' := s1.toks) fun b ob q => Heap.get?_push_of_some _ q
  refine ⟨hdo.typeIs, hdo.mapOf.noDict, ?_⟩
  show wpAny _ _ (callWith cpos (.builtin "dict.items") [.ref d] [] []) _ X.xe s1
  refine method_meetsIn F.slot_dict_items F.entry_dict_items rfl (PySem.evalArgs_none ⟨rfl, hdo.typeIs, F.args_dict_items_1 _, _, meets_dict_items (mixKind X.prog X.w) d hs0, ⟨vs, hdo⟩, ?_⟩)
  refine Calls.spliced_nil ?_
  refine PySem.W.kdx_call (knd := mixKind X.prog X.w) (kvs := vs) (ep := ep) (I1.ok.hd hc) ⟨_, Heap.get?_push_size _ rfl, rfl, rfl⟩ (hat.push _) (by omega) fun h' tk acc c as hk hS hl hG hacc => ?_
  obtain ⟨H', k1, k2, k3, k4, k5, k6, J⟩ := items_laid (tk := tk) I2 hz kv hk hS hl hG hacc
  exact ⟨.ref _, H', J, rfl, q H' _ as k1 k2 k3 k4 k5 k6⟩
def dItems (da : DT nf) : DT nf := fun env Q => da env fun x env1 => ∃ kds, x = .dct kds ∧ Q (.lst (kds.map fun p => .tup [kD p.1, p.2])) env1
theorem rels_items {H : Hp} : ∀ {ts : List Addr} {kvs : List (Key × V)} {kds : List (Key × D)}, Paired (fun (t : Addr) (q : Key × V) => H t = some (.tup [kV q.1, q.2])) ts kvs → RelK K nf H kvs kds → Rels K nf H (ts.map V.ref) (kds.map fun p => .tup [kD p.1, p.2])
  | _, _, _, .nil, .nil => .nil
  | _, _, _, .cons h t, .cons r rr => .cons (.tup (SqT.of h) (.cons (rel_key _) (.cons r .nil))) (rels_items t rr)
theorem de_items {e : Expr} {da : DT nf} {p apos cpos pos : Pos} (hc : X.calm = true) (he : DE X nf e da) (hg : Gl X "list") (hm : X.mg "list" = none) (hbase : attributeBase e "items" X.env (eval e X.env) = eval e X.env := by rfl) (hline : (apos.endLine == cpos.line) = true := by rfl)
    (hs : starEach [.Call (.Attribute e "items" apos) [] [] cpos] X.env = (false, eval (.Call (.Attribute e "items" apos) [] [] cpos) X.env) :: starEach [] X.env := by rfl) :
    DE X nf (.Call (.Name "list" p) [.Call (.Attribute e "items" apos) [] [] cpos] [] pos) (dItems da) := pe_imp (pe_fz (pe_listItemsR hc he hg hm hbase hline hs)) fun σ H Q ⟨env, fp, Qd, R, h, k⟩ =>
  lift_run R h fun v H1 x env1 fp1 r1 R1 c1 ⟨kds, e, q⟩ => by
    subst e
    cases r1 with
    | @dct a ob kvs _ ha rr =>
      refine ⟨a, kvs, rfl, .inr ⟨ob, ha⟩, fun H' p ts xt hp hts npt hp' hpd => ⟨p, _, rfl, hp', trivial, fun o => ?_⟩⟩
      have xt' : Xt H1 H' := xt
      have x2 : Xt H1 (upd H' p (.frz o (.lst (ts.map V.ref)))) := xt_fz xt' hp
      have st : Stp nf H' (upd H' p (.frz o (.lst (ts.map V.ref)))) := fun b u e f => by
        by_cases hb : b = p
        · subst hb; rw [hp'] at e; cases e; exact f.elim
        · rw [upd_ne hb]; exact e
      refine k _ _ _ env1 fp1 (.lst ⟨o, upd_same⟩ ((rels_items hpd (rr.mono xt'.stp)).mono st)) (R1.ext x2) (c1.trans x2.ch) q
/-! dicts that are equal -/
theorem op_eqDR (hu : X.A.units < cLine) : OpR X (compareOp .Eq) (fun x y H Q => ∃ a b ks ls, x = .ref a ∧ y = .ref b ∧ Rd H a (.dK ks) ∧ Rd H b (.dK ls) ∧ ks.length = ls.length ∧ (∀ p ∈ ks, valV ls p.1 = some p.2 ∧ flatB p.2 = true) ∧ Q (.bl true) H) := by
  intro pins s σ H x y v u Q I rx ry h
  obtain ⟨a, b, ks, ls, rfl, rfl, ea, eb, hlen, hp, q⟩ := h
  obtain rfl : v = Value.ref a := rx
  obtain rfl : u = Value.ref b := ry
  obtain ⟨_, ya, va, ra, da⟩ := dk_rd I.hok ea
  obtain ⟨_, yb, vb, rb, db⟩ := dk_rd I.hok eb
  have hl : va.length = vb.length := by rw [← ra.length, ← rb.length]; exact hlen
  exact PySem.W.keq_eq (knd := mixKind X.prog X.w) (r := true) ya yb da db hu (fun _ => hits_all rb ra hp) (fin_bl I q (by simp [hl]))
theorem op_neDR (hu : X.A.units < cLine) : OpR X (compareOp .NotEq) (fun x y H Q => ∃ a b ks ls, x = .ref a ∧ y = .ref b ∧ Rd H a (.dK ks) ∧ Rd H b (.dK ls) ∧ ks.length = ls.length ∧ (∀ p ∈ ks, valV ls p.1 = some p.2 ∧ flatB p.2 = true) ∧ Q (.bl false) H) := by
  intro pins s σ H x y v u Q I rx ry h
  obtain ⟨a, b, ks, ls, rfl, rfl, ea, eb, hlen, hp, q⟩ := h
  obtain rfl : v = Value.ref a := rx
  obtain rfl : u = Value.ref b := ry
  obtain ⟨_, ya, va, ra, da⟩ := dk_rd I.hok ea
  obtain ⟨_, yb, vb, rb, db⟩ := dk_rd I.hok eb
  have hl : va.length = vb.length := by rw [← ra.length, ← rb.length]; exact hlen
  exact PySem.W.keq_ne (knd := mixKind X.prog X.w) (r := true) ya yb da db hu (fun _ => hits_all rb ra hp) (fin_bl I q (by simp [hl]))
def sameDct (ks ls : List (Key × D)) : Prop := ks.length = ls.length ∧ ∀ p ∈ ks, ∃ v, flatD p.2 = some v ∧ (valD ls p.1).bind flatD = some v
def fEqDct (r : Bool) : D → D → D → Prop := fun x y z => ∃ ks ls, x = .dct ks ∧ y = .dct ls ∧ sameDct ks ls ∧ z = .bl r
theorem flatB_of {v : V} (h : flatV v = true) : flatB v = true := by cases v <;> simp_all [flatV, flatB]
theorem same_of {H : Hp} {ks ls : List (Key × D)} {kvs lvs : List (Key × V)} (hk : RelK K nf H kvs ks) (hl : RelK K nf H lvs ls) (s : ∀ p ∈ ks, ∃ v, flatD p.2 = some v ∧ (valD ls p.1).bind flatD = some v) : ∀ p ∈ kvs, valV lvs p.1 = some p.2 ∧ flatB p.2 = true := by
  intro p m
  obtain ⟨i, hi, e⟩ := List.mem_iff_getElem.mp m
  obtain ⟨d, ed, r⟩ := hk.getV (i := i) (k := p.1) (v := p.2) (by rw [List.getElem?_eq_getElem hi, e])
  obtain ⟨v, e1, e2⟩ := s (p.1, d) (List.mem_of_getElem? ed)
  obtain ⟨ev, fv⟩ := flat_of r e1
  cases q : valD ls p.1 with
  | none => rw [q] at e2; cases e2
  | some d2 =>
    rw [q] at e2
    obtain ⟨w, ew, rw2⟩ := hl.val q
    obtain ⟨ev2, _⟩ := flat_of rw2 e2
    refine ⟨?_, flatB_of fv⟩
    rw [ew, ev2, ev]
theorem od_eqDct : OpD K nf (fun x y H Q => ∃ a b ks ls, x = .ref a ∧ y = .ref b ∧ Rd H a (.dK ks) ∧ Rd H b (.dK ls) ∧ ks.length = ls.length ∧ (∀ p ∈ ks, valV ls p.1 = some p.2 ∧ flatB p.2 = true) ∧ Q (.bl true) H) (fEqDct true) := by
  rintro H v w x y z r1 r2 ⟨ks, ls, rfl, rfl, ⟨s1, s2⟩, rfl⟩ Q q
  cases r1 with
  | dct h1 rr1 =>
    cases r2 with
    | dct h2 rr2 => exact ⟨_, _, _, _, rfl, rfl, .inr ⟨_, h1⟩, .inr ⟨_, h2⟩, by rw [rr1.length, rr2.length, s1], same_of rr1 rr2 s2, q _ H (.bl true) Xt.refl⟩
theorem od_neDct : OpD K nf (fun x y H Q => ∃ a b ks ls, x = .ref a ∧ y = .ref b ∧ Rd H a (.dK ks) ∧ Rd H b (.dK ls) ∧ ks.length = ls.length ∧ (∀ p ∈ ks, valV ls p.1 = some p.2 ∧ flatB p.2 = true) ∧ Q (.bl false) H) (fEqDct false) := by
  rintro H v w x y z r1 r2 ⟨ks, ls, rfl, rfl, ⟨s1, s2⟩, rfl⟩ Q q
  cases r1 with
  | dct h1 rr1 =>
    cases r2 with
    | dct h2 rr2 => exact ⟨_, _, _, _, rfl, rfl, .inr ⟨_, h1⟩, .inr ⟨_, h2⟩, by rw [rr1.length, rr2.length, s1], same_of rr1 rr2 s2, q _ H (.bl false) Xt.refl⟩
def dEqDct (r : Bool) (da db : DT nf) : DT nf := dOp (fEqDct r) da db
variable {a b : Expr} {pos : Pos} {da db : DT nf}
theorem de_eqDct (hu : X.A.units < cLine) (ha : DE X nf a da) (hb : DE X nf b db) : DE X nf (.Compare a [.Eq] [b] pos) (dEqDct true da db) := de_cmp (op_eqDR hu) od_eqDct ha hb (nomark _)
theorem dc_eqDct (hu : X.A.units < cLine) (ha : DE X nf a da) (hb : DE X nf b db) : DC X nf (.Compare a [.Eq] [b] pos) (dBv (dEqDct true da db)) := dc_cmp (op_eqDR hu) od_eqDct ha hb (nomark _)
theorem dc_neDct (hu : X.A.units < cLine) (ha : DE X nf a da) (hb : DE X nf b db) : DC X nf (.Compare a [.NotEq] [b] pos) (dBv (dEqDct false da db)) := dc_cmp (op_neDR hu) od_neDct ha hb (nomark _)
end
end DL

namespace DL
open PySem L2
section
variable [Anch] {X : Cx} {nf : Addr → Nat} {K : PySem.W.Frag}
/-! ### defs that give back a thing of one's own -/
abbrev SpO (nf : Addr → Nat) := List (SD nf) → (SD nf → List (SD nf) → Prop) → Prop
def toSpO (K : PySem.W.Frag) (nf : Addr → Nat) (n : Nat) (S : SpO nf) : Sp := fun vs H Q _ => vs.length = n ∧ ∃ as fp Qd, as.length = n ∧ EnvL K nf H (vs.map some) as fp ∧ S as Qd ∧
  ∀ v H' s as' fi fp', as'.length = n → SlotR K nf H' (some v) fi s → EnvL K nf H' (vs.map some) as' fp' → (∀ a ∈ fi, a ∉ fp') → Ch fp H (fi ++ fp') H' → Qd s as' → Q v H'
def fnEndsO (as : List (SD nf)) (Qd : SD nf → List (SD nf) → Prop) : EndsD nf where
  nx env := BackOk as env ∧ Qd (.fz .non) (back as env)
  rt d env := BackOk as env ∧ Qd (.fz d) (back as env)
  ro v A env := BackOk as env ∧ Qd (.ow v A) (back as env)
theorem Ch.less {H H' : Hp} {fp f1 f2 : List Addr} (c : Ch fp H f1 H') (s : ∀ a ∈ f2, a ∈ f1) : Ch fp H f2 H' := ⟨c.keep, fun a m => c.sub a (s a m), c.there⟩
end
section
variable {X : Cx} {nf : Addr → Nat} {K : PySem.W.Frag}
theorem body_okO {body : List Stmt} {td : DTS nf} {N : List Str} {n : Nat} {S : SpO nf} (h : DSs X nf body td) (hn : n ≤ N.length) (hb : ∀ as Qd, as.length = n → S as Qd → td (fnEndsO as Qd) (as ++ List.replicate (N.length - n) .un))
    {vs : List V} {H : Hp} {Q : VK} {E : XK} (hs : toSpO X.K nf n S vs H Q E) : ∃ t, PSs X body t ∧ t { nx := fun _ H' => Q .non H', rt := Q } (start N vs) H := by
  obtain ⟨hv, as, fp, Qd, hl, R, s, k⟩ := hs
  refine ⟨_, h, as ++ List.replicate (N.length - n) .un, fp, fnEndsO as Qd, ⟨?_, trivial⟩, hb as Qd hl s, ?_⟩
  · have := R.pad (N.length - n)
    rw [← hv] at this ⊢
    exact this
  · refine ⟨fun σ' H' env' fp' R' c ⟨b, q⟩ => ?_, fun v d σ' H' env' fp' r R' c ⟨b, q⟩ => ?_, fun σ' H' env' fp' R' c q => q.elim, fun σ' H' env' fp' R' c q => q.elim, fun v A σ' H' env' fp' fi hi R' hn' c ⟨b, q⟩ => ?_⟩
    · obtain ⟨fq, R2, sub⟩ := EnvL.back (c.stpL (R.pad (N.length - n))) R R'.1 b
      exact k .non H' (.fz .non) _ [] fq (by rw [back_len, hl]) ⟨rfl, _, rfl, .non⟩ R2 (fun a m => by cases m) (c.less sub) q
    · obtain ⟨fq, R2, sub⟩ := EnvL.back (c.stpL (R.pad (N.length - n))) R R'.1 b
      exact k v H' (.fz d) _ [] fq (by rw [back_len, hl]) ⟨rfl, _, rfl, r⟩ R2 (fun a m => by cases m) (c.less sub) q
    · have c' : Ch fp H fp' H' := c.less fun a m => List.mem_append_right _ m
      obtain ⟨fq, R2, sub⟩ := EnvL.back (c'.stpL (R.pad (N.length - n))) R R'.1 b
      refine k v H' (.ow v A) _ fi fq (by rw [back_len, hl]) ⟨rfl, hi⟩ R2 (fun a m z => hn' a m (sub a z)) (c.less fun a m => ?_) q
      rcases List.mem_append.mp m with z | z
      · exact List.mem_append_left _ z
      · exact List.mem_append_right _ (sub a z)
end
section
variable [Anch] {X : Cx} {nf : Addr → Nat} {K : PySem.W.Frag}
/-- slot i gets a thing that stands apart from all -/
theorem EnvL.put {H : Hp} {σ : St} {env : EV nf} {fp : List Addr} (R : EnvL K nf H σ env fp) : ∀ {i : Nat} {v : V} {s : SD nf} {fi : List Addr}, i < env.length → SlotR K nf H (some v) fi s → (∀ a ∈ fi, a ∉ fp) →
    ∃ fp', EnvL K nf H (σ.set i (some v)) (env.set i s) fp' ∧ ∀ a ∈ fp', a ∈ fi ∨ a ∈ fp := by
  induction R with
  | nil => intro i v s fi h; simp at h
  | @cons o σ s0 env fp0 fq hs he hd ih =>
    intro i v s fi h hs' hn
    cases i with
    | zero =>
      refine ⟨fi ++ fq, .cons hs' he fun a m z => hn a m (List.mem_append_right _ z), fun a m => ?_⟩
      rcases List.mem_append.mp m with m | m
      · exact .inl m
      · exact .inr (List.mem_append_right _ m)
    | succ i =>
      obtain ⟨fp', R', sub⟩ := ih (i := i) (v := v) (s := s) (fi := fi) (by simpa using h) hs' fun a m z => hn a m (List.mem_append_right _ z)
      refine ⟨fp0 ++ fp', .cons hs R' fun a m z => ?_, fun a m => ?_⟩
      · rcases sub a z with q | q
        · exact hn a q (List.mem_append_left _ m)
        · exact hd a m q
      · rcases List.mem_append.mp m with m | m
        · exact .inr (List.mem_append_left _ m)
        · exact (sub a m).imp id (List.mem_append_right _)
/-- slot i is taken out -/
theorem EnvL.take {H : Hp} {σ : St} {env : EV nf} {fp : List Addr} (R : EnvL K nf H σ env fp) : ∀ {i : Nat} {v : V} {A : OA nf}, env[i]? = some (.ow v A) →
    ∃ fi fp', σ[i]? = some (some v) ∧ A.inv v fi H ∧ EnvL K nf H σ (env.set i .un) fp' ∧ (∀ a ∈ fi, a ∉ fp') ∧ ∀ a, a ∈ fi ++ fp' → a ∈ fp := by
  induction R with
  | nil => intro i v s h; simp at h
  | @cons o σ s0 env fp0 fq hs he hd ih =>
    intro i v A h
    cases i with
    | zero =>
      simp at h
      subst h
      exact ⟨fp0, [] ++ fq, by simp [hs.1], hs.2, (EnvL.cons (show SlotR K nf H o [] .un from rfl) he (fun a m => by cases m)), (fun a m z => hd a m z), fun a m => m⟩
    | succ i =>
      obtain ⟨fi, fp', e1, hi, R', hn, sub⟩ := ih (i := i) (v := v) (A := A) (by simpa using h)
      refine ⟨fi, fp0 ++ fp', by simpa using e1, hi, .cons hs R' fun a m z => hd a m (sub a (List.mem_append_right _ z)), fun a m z => ?_, fun a m => ?_⟩
      · rcases List.mem_append.mp z with z | z
        · exact hd a z (sub a (List.mem_append_left _ m))
        · exact hn a m z
      · rcases List.mem_append.mp m with m | m
        · exact List.mem_append_right _ (sub a (List.mem_append_left _ m))
        · rcases List.mem_append.mp m with m | m
          · exact List.mem_append_left _ m
          · exact List.mem_append_right _ (sub a (List.mem_append_right _ m))
/-- return x, x one's own -/
def sRetO (i : Nat) : DTS nf := fun De env => ∃ v A, env[i]? = some (.ow v A) ∧ De.ro v A (env.set i .un)
theorem ds_retO {i : Nat} {e : Expr} {pos : Pos} (h : PE X e (tVar i)) : DS X nf (.Return (some e) pos) (sRetO i) := ps_imp (ps_ret h) fun E σ H ⟨env, fp, De, R, ⟨v, A, e1, q⟩, br⟩ => by
  obtain ⟨fi, fp', e2, hi, R', hn, sub⟩ := R.1.take e1
  exact ⟨v, e2, br.ro v A σ H _ fp' fi hi (R.re R' (Ch.refl.less fun a m => sub a (List.mem_append_right _ m))) hn (Ch.refl.less sub) q⟩
/-- return [..], one's own -/
def sRetL (K : PySem.W.Frag) (r : DAs nf) : DTS nf := fun De env => r env fun xs env1 => xs.length ≤ 1000000 ∧ ∀ p, De.ro (.ref p) (lstA K nf xs) env1
theorem ds_retL {es : List Expr} {r : DAs nf} {lpos pos : Pos} (h : DA X nf es r) : DS X nf (.Return (some (.List es lpos)) pos) (sRetL X.K r) := ps_imp (ps_ret (pe_lst h)) fun E σ H ⟨env, fp, De, R, q, br⟩ =>
  ⟨env, fp, _, R, q, fun vs H1 ds env1 fp1 r1 R1 c1 ⟨hl, q1⟩ => ⟨by rw [r1.length]; exact sz_ok hl, fun p hp => by
    have x : Xt H1 (upd H1 p (.lst vs)) := Xt.new hp
    have np : p ∉ fp1 := fun m => by obtain ⟨u, e, _⟩ := R1.trk p m; rw [hp] at e; cases e
    refine br.ro (.ref p) (lstA X.K nf ds) σ _ env1 fp1 [p] ⟨p, vs, rfl, rfl, upd_same, r1.mono x.stp⟩ (R1.ext x) (fun a m z => np (by rw [List.mem_singleton.mp m] at z; exact z)) ?_ (q1 p)
    have c2 := c1.trans (x.ch (fp := fp1))
    refine ⟨c2.keep, fun a m => ?_, c2.there⟩
    rcases List.mem_append.mp m with m | m
    · rw [List.mem_singleton.mp m]; exact .inr (c1.there p hp)
    · exact c2.sub a m⟩⟩
/-- x = f(..), what comes back in slot i -/
def sCallO (n : Nat) (S : SpO nf) (dds : List D) (r : DM nf) (i : Nat) : DTS nf := fun De env => r env fun ads env1 => ads.length + dds.length = n ∧ (slotsOf (ads ++ dds.map AD.v)).Nodup ∧ (∀ i ∈ slotsOf (ads ++ dds.map AD.v), i < env1.length) ∧ i < env1.length ∧
  S ((ads ++ dds.map AD.v).map (resolve env1)) fun s as' => De.nx ((putBack env1 (ads ++ dds.map AD.v) as').set i s)
theorem spO_run {S : SpO nf} {n i : Nat} {σ : St} {H : Hp} {Q : VK} {E : XK} {env : EV nf} {fp : List Addr} {vs : List V} {ads : List AD} {Qd : EV nf → Prop} (R : EnvR K nf H σ env fp) (M : ArgsM K nf H σ vs ads) (hn : ads.length = n)
    (nd : (slotsOf ads).Nodup) (hin : ∀ i ∈ slotsOf ads, i < env.length) (hi : i < env.length) (s : S (ads.map (resolve env)) fun s as' => Qd ((putBack env ads as').set i s))
    (k : ∀ v H' env' fp', EnvR K nf H' (σ.set i (some v)) env' fp' → Ch fp H fp' H' → Qd env' → Q v H') : toSpO K nf n S vs H Q E := by
  obtain ⟨fpa, RA, put⟩ := R.args M nd hin
  refine ⟨by rw [M.len, hn], _, fpa, _, by rw [List.length_map, hn], RA, s, fun v H' s as' fi fp' hl r R' hd c q => ?_⟩
  have c' : Ch fpa H fp' H' := c.less fun a m => List.mem_append_right _ m
  obtain ⟨fp2, R2, c2, sub2, suba⟩ := put H' as' fp' (by rw [hl, hn]) R' c'
  have hdis : ∀ a ∈ fi, a ∉ fp2 := fun a m z => by
    rcases sub2 a z with q | ⟨q1, q2⟩
    · exact hd a m q
    · rcases c.sub a (List.mem_append_left _ m) with y | y
      · exact q2 y
      · obtain ⟨u, e, _⟩ := R.trk a q1
        rw [y] at e; cases e
  obtain ⟨fp3, R3, sub3⟩ := R2.1.put (i := i) (by rw [putBack_len]; exact hi) r hdis
  have CC : Ch fp H fp3 H' := ?_
  · exact k v H' _ fp3 (R.re R3 CC) CC q
  refine ⟨c2.keep, fun a m => ?_, c2.there⟩
  rcases sub3 a m with z | z
  · rcases c.sub a (List.mem_append_left _ z) with y | y
    · exact .inl (suba a y)
    · exact .inr y
  · exact c2.sub a z
section
variable {CX : CXT} {k n : Nat} {f C : Addr} {fd : FuncData} {ps : List Str} {S : SpO nf} {dvs : List V} {dds : List D} {ds : List Value} {E : XK} {x y m : Str} {p pos apos : Pos} {e o : Expr} {es : List Expr} {r : DM nf} {da : DT nf}
theorem ds_callO {i : Nat} {pos' cpos : Pos} (hN : X.N.Nodup) (hi : X.N[i]? = some y) (hy : Loc X.env.scope y) (F : FnOk X.prog X.w X.K X.mg X.base CX k f fd ps (toSpO X.K nf n S)) (hr : Room k X.A) (hg : Gl X x) (hm : X.mg x = some (.ref f)) (hk : PySem.W.keepIn X.K (.ref f) = true) (hb : Binds X.K fd ps ds) (hd : Vals dvs ds) (hdd : ∀ H, Rels X.K nf H dvs dds) (hx : Passes CX X E)
    (ha : DAM X nf (e :: es) r) (hdb : (x == ("__debug__" : Str)) = false := by decide) (he : starEach (e :: es) X.env = (false, eval e X.env) :: starEach es X.env := by rfl) (hpl : (backTo cpos (starEach es X.env)).any (·.1) = false := by rfl)
    (hs : swapsWith (.Call (.Name x p) (e :: es) [] cpos) (some (.Name y pos')) pos.line X.env = pure false := by rfl)
    (hf : X.fn y = true ∨ X.env.scope.names.lookup y = some .local := by first | exact .inl rfl | exact .inr rfl | assumption) :
    DS X nf (.Assign [.Name y pos'] (.Call (.Name x p) (e :: es) [] cpos) pos) (sCallO n S dds r i) := ps_imp (ps_set hN hi hy (pe_call F hr hg hm hk hb hd hx ha hdb he hpl) hs hf) fun E' σ H ⟨env, fp, De, R, h, br⟩ => by
  refine ⟨env, fp, _, R, h, fun vs H1 ads env1 fp1 r1 R1 c1 ⟨hl, nd, hin, hi', s⟩ => ?_⟩
  exact spO_run (i := i) R1 (r1.app id (hdd H1)) (by rw [List.length_append, List.length_map, hl]) nd hin hi' s fun v H' env' fp' R' c' q => br.nx _ H' env' fp' R' (c1.trans c') q
end
end
end DL

namespace DL
open PySem L2
section
variable [Anch] {X : Cx} {nf : Addr → Nat} {K : PySem.W.Frag}
/-- xs[i], by values, the place not below 0 -/
theorem get_list : PGet X (fun o i H Q => ∃ p xs k z, o = .ref p ∧ i = .int k ∧ SqL X.K H p xs ∧ 0 ≤ k ∧ xs[k.toNat]? = some z ∧ Q z H) := by
  intro pins s σ H o i ov iv Q I ro ri h
  obtain ⟨p, xs, k, z, rfl, rfl, hq, h0, he, q⟩ := h
  cases ro
  obtain ⟨t, rfl⟩ := ri
  obtain ⟨its, r, pl, hz⟩ := I.list hq
  obtain ⟨w, ew, rw'⟩ := r.get he
  have hl := r.length
  have hn := line63
  have hlt : k.toNat < xs.length := (List.getElem?_eq_some_iff.mp he).1
  exact wpAny_getItem_list pl.isList h0 (by omega) (by simpa using ew) ⟨z, H, I, rw', q⟩
/-! ### xs[i] = e, xs[i] += e of a slot's own list -/
theorem Rels.set {H : Hp} {v : V} {d : D} (h : Rel K nf H v d) : ∀ {vs : List V} {ds : List D} (i : Nat), Rels K nf H vs ds → Rels K nf H (vs.set i v) (ds.set i d)
  | _, _, _, .nil => .nil
  | _, _, 0, .cons _ r => .cons h r
  | _, _, i + 1, .cons h' r => .cons h' (Rels.set h i r)
def sLPut (K : PySem.W.Frag) (i : Nat) (db dv : DT nf) : DTS nf := fun De env => dv env fun d env1 => (∃ v xs, env1[i]? = some (.ow v (lstA K nf xs))) ∧ db env1 fun y env2 => ∃ v xs k j, env2[i]? = some (.ow v (lstA K nf xs)) ∧ y = .int k ∧ ixN xs.length k = some j ∧ De.nx (env2.set i (.ow v (lstA K nf (xs.set j d))))
theorem ds_lput {i : Nat} {o ix value : Expr} {db dv : DT nf} {pos pos' : Pos} (ho : PE X o (tVar i)) (hi : DE X nf ix db) (hv : DE X nf value dv) (hs : swapsWithSole [.Subscript o ix pos'] value pos.line X.env = pure false := by rfl) (hw : swappedStores [.Subscript o ix pos'] value X.env = pure none := by rfl)
    (h1 : (assignEach [.Subscript o ix pos'] X.env).map (·.2) = [assign (.Subscript o ix pos') X.env] := by rfl)
    (ha : ∀ v, assign (.Subscript o ix pos') X.env v = (do
      let ov ← holding [v] (eval o X.env)
      let iv ← holding [v, ov] (eval ix X.env)
      standAt pos'
      holding [v, ov, iv] (setItem ov iv v)
      release [v, ov, iv] []) := by intro _; rfl) :
    DS X nf (.Assign [.Subscript o ix pos'] value pos) (sLPut X.K i db dv) := ps_imp (ps_asg hv (pg_sub ho hi set_list ha) hs hw h1) fun E σ H ⟨env, fp, De, R, q, br⟩ =>
  lift_run R q fun w H1 d env1 fp1 r1 R1 c1 ⟨⟨v0, xs0, e0⟩, q1⟩ => by
    obtain ⟨p0, _, _, es0, _, _, _⟩ := R1.lstAt e0
    refine ⟨_, es0, lift_run R1 q1 fun u H2 y env2 fp2 r2 R2 c2 ⟨v, xs, k, j, e2, ek, hj, q2⟩ => ?_⟩
    obtain ⟨p, vs, ev, es, hp, rr, rep⟩ := R2.lstAt e2
    rw [es0] at es
    cases es
    subst ek
    have eu := rel_int r2
    subst eu
    obtain ⟨fp3, R3, c3⟩ := rep (vs.set j w) (xs.set j d) (Rels.set (r1.mono (c2.stp R1)) j rr)
    exact ⟨p0, vs, k, j, rfl, rfl, hp, by rw [rr.length]; exact hj, br.nx σ _ _ fp3 R3 ((c1.trans c2).trans c3) q2⟩
def sLAug (K : PySem.W.Frag) (i : Nat) (k : Int) (dv : DT nf) : DTS nf := fun De env => ∃ v xs z, env[i]? = some (.ow v (lstA K nf xs)) ∧ 0 ≤ k ∧ xs[k.toNat]? = some (.int z) ∧ dv env fun d env1 => ∃ y xs1, d = .int y ∧ env1[i]? = some (.ow v (lstA K nf xs1)) ∧ k.toNat < xs1.length ∧ De.nx (env1.set i (.ow v (lstA K nf (xs1.set k.toNat (.int (z + y))))))
theorem ds_laug {i : Nat} {k : Int} {o value : Expr} {dv : DT nf} {j} {pos pos' ipos : Pos} (ho : PE X o (tVar i)) (hv : DE X nf value dv)
    (ha : ∀ ov iv new, augStore (.Constant (.int k) j ipos) ov iv new = (do holding [new, ov, iv] (setItem ov iv new); release [new, ov, iv] []; pure .next) := by intros; rfl) :
    DS X nf (.AugAssign (.Subscript o (.Constant (.int k) j ipos) pos') .Add value pos) (sLAug X.K i k dv) := ps_imp (ps_augS ho pe_int get_list hv ip_add set_list ha) fun E σ H ⟨env, fp, De, R, ⟨v, xs, z, e0, hk, hz, q⟩, br⟩ => by
  obtain ⟨p0, vs0, ev0, es0, hp0, rr0, _⟩ := R.lstAt e0
  subst ev0
  obtain ⟨u, eu, ru⟩ := rr0.get hz
  have eu2 := rel_int ru
  subst eu2
  refine ⟨_, es0, p0, vs0, k, _, rfl, rfl, SqL.of hp0, hk, eu, lift_run R q fun w H1 d env1 fp1 r1 R1 c1 ⟨y, xs1, ed, e1, hlt, q1⟩ => ?_⟩
  subst ed
  have ew := rel_int r1
  subst ew
  obtain ⟨p, vs, ev, es, hp, rr, rep⟩ := R1.lstAt e1
  rw [es0] at es
  cases es
  obtain ⟨fp3, R3, c3⟩ := rep (vs.set k.toNat (.int (z + y))) (xs1.set k.toNat (.int (z + y))) (Rels.set (.int _) _ rr)
  refine ⟨z, y, rfl, rfl, p0, vs, k, k.toNat, rfl, rfl, hp, ?_, br.nx σ _ _ fp3 R3 (c1.trans c3) q1⟩
  unfold ixN
  rw [if_pos hk, if_pos (by rw [rr.length]; omega)]
/-! ### the state of the draws: [great numbers, x, n, seed] -/
def stA (nf : Addr → Nat) (gr : List Int) (x n sd : Int) : OA nf where
  inv v fp H := ∃ t g, v = .ref t ∧ fp = [t, g] ∧ t ≠ g ∧ H t = some (.lst [.ref g, .int x, .int n, .int sd]) ∧ H g = some (.lst (gr.map .int))
  frame := by
    rintro v fp H H' ⟨t, g, e1, e2, ne, ht, hg⟩ k st
    subst e2
    exact ⟨t, g, e1, rfl, ne, by rw [k t (by simp)]; exact ht, by rw [k g (by simp)]; exact hg⟩
  trk := by
    rintro v fp H ⟨t, g, e1, e2, ne, ht, hg⟩ a m
    subst e2
    rcases List.mem_cons.mp m with m | m
    · subst m; exact ⟨_, ht, fun z => z⟩
    · rw [List.mem_singleton.mp m]; exact ⟨_, hg, fun z => z⟩
  nd := by
    rintro v fp H ⟨t, g, e1, e2, ne, ht, hg⟩
    subst e2
    simp [ne]
theorem upd_self {H : Hp} {g : Addr} {u : HO} (h : H g = some u) : upd H g u = H := by
  funext b
  by_cases hb : b = g
  · subst hb; rw [upd_same, h]
  · rw [upd_ne hb]
theorem EnvR.stAt {H : Hp} {σ : St} {env : EV nf} {fp : List Addr} (R : EnvR K nf H σ env fp) {i : Nat} {v : V} {gr : List Int} {x n sd : Int} (e : env[i]? = some (.ow v (stA nf gr x n sd))) :
    ∃ t g, v = .ref t ∧ σ[i]? = some (some (.ref t)) ∧ t ≠ g ∧ H t = some (.lst [.ref g, .int x, .int n, .int sd]) ∧ H g = some (.lst (gr.map .int)) ∧
      ∀ gr' x' n' sd', ∃ fp', EnvR K nf (upd (upd H g (.lst (gr'.map .int))) t (.lst [.ref g, .int x', .int n', .int sd'])) σ (env.set i (.ow v (stA nf gr' x' n' sd'))) fp' ∧ Ch fp H fp' (upd (upd H g (.lst (gr'.map .int))) t (.lst [.ref g, .int x', .int n', .int sd'])) := by
  obtain ⟨o, fi, e1, ⟨eo, t, g, ev, ef, ne, ht, hg⟩, sub, rep⟩ := R.at e
  subst eo ev ef
  refine ⟨t, g, rfl, e1, ne, ht, hg, fun gr' x' n' sd' => ?_⟩
  have off : ∀ a, a ∉ [t, g] → upd (upd H g (.lst (gr'.map .int))) t (.lst [.ref g, .int x', .int n', .int sd']) a = H a := fun a m => by
    have h1 : a ≠ t := fun z => m (by simp [z])
    have h2 : a ≠ g := fun z => m (by simp [z])
    rw [upd_ne h1, upd_ne h2]
  have st : Stp nf H (upd (upd H g (.lst (gr'.map .int))) t (.lst [.ref g, .int x', .int n', .int sd'])) := fun a u h f => by
    by_cases ha : a ∈ [t, g]
    · rcases List.mem_cons.mp ha with m | m
      · subst m; rw [ht] at h; cases h; exact f.elim
      · rw [List.mem_singleton.mp m, hg] at h; cases h; exact f.elim
    · rw [off a ha]; exact h
  obtain ⟨fp', R', sub'⟩ := rep _ (some (.ref t)) (.ow (.ref t) (stA nf gr' x' n' sd')) [t, g] ⟨rfl, t, g, rfl, rfl, ne, upd_same, by rw [upd_ne (Ne.symm ne), upd_same]⟩ (fun a u h m => by rw [off a m]; exact h) (fun a m => .inl m) st
  have es : σ.set i (some (.ref t)) = σ := by
    obtain ⟨h1, h2⟩ := List.getElem?_eq_some_iff.mp e1
    rw [← h2]
    exact List.set_getElem_self h1
  rw [es] at R'
  refine R.rex R' ⟨fun a u h m => ?_, sub', fun a h => ?_⟩
  · rw [off a fun z => m (sub a z)]; exact h
  · by_cases ha : a ∈ [t, g]
    · exfalso
      rcases List.mem_cons.mp ha with m | m
      · subst m; rw [upd_same] at h; cases h
      · have m := List.mem_singleton.mp m
        subst m; rw [upd_ne (Ne.symm ne), upd_same] at h; cases h
    · rw [off a ha] at h; exact h
def stF (x n sd : Int) : Int → Option Int
  | 1 => some x | 2 => some n | 3 => some sd | _ => none
def stP (gr : List Int) (x n sd : Int) (j : Int) (z : Int) : OA nf := if j = 1 then stA nf gr z n sd else if j = 2 then stA nf gr x z sd else stA nf gr x n z
/-- s[j] -/
def dStI (i : Nat) (j : Int) : DT nf := fun env Q => ∃ v gr x n sd z, env[i]? = some (.ow v (stA nf gr x n sd)) ∧ stF x n sd j = some z ∧ Q (.int z) env
theorem stF_at {x n sd z j : Int} {g : Addr} (h : stF x n sd j = some z) : atI [V.ref g, .int x, .int n, .int sd] j = some (.int z) := by
  unfold stF at h
  split at h
  · cases h; rfl
  · cases h; rfl
  · cases h; rfl
  · cases h
theorem de_stI {i : Nat} {j : Int} {o : Expr} {q} {pos ipos : Pos} (ho : PE X o (tVar i)) (hs : PlainIx (.Constant (.int j) q ipos) := by exact fun _ _ => rfl) : DE X nf (.Subscript o (.Constant (.int j) q ipos) pos) (dStI i j) := pe_imp (pe_ix ix_list ho pe_int hs) fun σ H Q ⟨env, fp, Qd, R, ⟨v, gr, x, n, sd, z, e, hz, q⟩, k⟩ => by
  obtain ⟨t, g, ev, es, ne, ht, hg, _⟩ := R.stAt e
  exact ⟨_, es, t, _, j, .int z, rfl, rfl, SqL.of ht, stF_at hz, k _ H _ env fp (.int z) R Ch.refl q⟩
/-- s[0] != [] -/
def dStN (i : Nat) : DB nf := fun env Q => ∃ v gr x n sd, env[i]? = some (.ow v (stA nf gr x n sd)) ∧ Q (!gr.isEmpty) env
theorem dp_ints {H : Hp} : ∀ (gr : List Int), DpAll K H (gr.map V.int) (gr.map PyData.int)
  | [] => .nil
  | x :: xs => .cons (.int x) (dp_ints xs)
theorem dc_stN {i : Nat} {o : Expr} {q} {pos ipos pos2 lpos : Pos} (hu : X.A.units + 64 < cLine) (ho : PE X o (tVar i)) (hs : PlainIx (.Constant (.int 0) q ipos) := by exact fun _ _ => rfl) :
    DC X nf (.Compare (.Subscript o (.Constant (.int 0) q ipos) pos) [.NotEq] [.List [] lpos] pos2) (dStN i) := pt_imp (pt_cmpB (op_neD hu) (pe_ix ix_list ho pe_int hs) (pe_lst pa_nil) (nomark _)) fun σ H Q ⟨env, fp, Qd, R, ⟨v, gr, x, n, sd, e, q⟩, k⟩ => by
  obtain ⟨t, g, ev, es, ne, ht, hg, _⟩ := R.stAt e
  refine ⟨_, es, t, _, 0, .ref g, rfl, rfl, SqL.of ht, rfl, Nat.zero_le _, fun p hp => ?_⟩
  have xt : Xt H (upd H p (.lst [])) := Xt.new hp
  refine ⟨.list (gr.map .int), .list [], .lst (SqL.of (xt _ _ hg)) (dp_ints gr), .lst (SqL.of upd_same) .nil, PySem.W.shaped_ints gr, by decide, !gr.isEmpty, ?_, k _ _ env fp (R.ext xt) xt.ch q⟩
  cases gr <;> simp [PyData.eqv, PyData.eqvAll]
/-- s[j] = e -/
def sStS (i : Nat) (j : Int) (a : DT nf) : DTS nf := fun De env => a env fun d env1 => ∃ z v gr x n sd, d = .int z ∧ env1[i]? = some (.ow v (stA nf gr x n sd)) ∧ 1 ≤ j ∧ j ≤ 3 ∧ De.nx (env1.set i (.ow v (stP gr x n sd j z)))
theorem st_upd {H : Hp} {σ : St} {env : EV nf} {fp : List Addr} (R : EnvR K nf H σ env fp) {i : Nat} {v : V} {gr : List Int} {x n sd : Int} (e : env[i]? = some (.ow v (stA nf gr x n sd))) {j z : Int} (h1 : 1 ≤ j) (h3 : j ≤ 3) :
    ∃ t g, v = .ref t ∧ σ[i]? = some (some (.ref t)) ∧ H t = some (.lst [.ref g, .int x, .int n, .int sd]) ∧ ixN 4 j = some j.toNat ∧ ∃ fp', EnvR K nf (upd H t (.lst ([V.ref g, .int x, .int n, .int sd].set j.toNat (.int z)))) σ (env.set i (.ow v (stP gr x n sd j z))) fp' ∧
      Ch fp H fp' (upd H t (.lst ([V.ref g, .int x, .int n, .int sd].set j.toNat (.int z)))) := by
  obtain ⟨t, g, ev, es, ne, ht, hg, rep⟩ := R.stAt e
  refine ⟨t, g, ev, es, ht, ?_, ?_⟩
  · unfold ixN
    rw [if_pos (by omega), if_pos (by omega)]
  · have hj : j = 1 ∨ j = 2 ∨ j = 3 := by omega
    rcases hj with rfl | rfl | rfl
    · have := rep gr z n sd
      rw [upd_self hg] at this
      exact this
    · have := rep gr x z sd
      rw [upd_self hg] at this
      exact this
    · have := rep gr x n z
      rw [upd_self hg] at this
      exact this
theorem ds_stS {i : Nat} {j : Int} {o value : Expr} {q} {a : DT nf} {pos pos' ipos : Pos} (ho : PE X o (tVar i)) (hv : DE X nf value a) (hs : swapsWithSole [.Subscript o (.Constant (.int j) q ipos) pos'] value pos.line X.env = pure false := by rfl) (hw : swappedStores [.Subscript o (.Constant (.int j) q ipos) pos'] value X.env = pure none := by rfl)
    (h1 : (assignEach [.Subscript o (.Constant (.int j) q ipos) pos'] X.env).map (·.2) = [assign (.Subscript o (.Constant (.int j) q ipos) pos') X.env] := by rfl)
    (ha : ∀ v, assign (.Subscript o (.Constant (.int j) q ipos) pos') X.env v = (do
      let ov ← holding [v] (eval o X.env)
      let iv ← holding [v, ov] (eval (.Constant (.int j) q ipos) X.env)
      standAt pos'
      holding [v, ov, iv] (setItem ov iv v)
      release [v, ov, iv] []) := by intro _; rfl) : DS X nf (.Assign [.Subscript o (.Constant (.int j) q ipos) pos'] value pos) (sStS i j a) := ps_imp (ps_asg hv (pg_sub ho pe_int set_list ha) hs hw h1) fun E σ H ⟨env, fp, De, R, q, br⟩ =>
  lift_run R q fun w H1 d env1 fp1 r1 R1 c1 ⟨z, v, gr, x, n, sd, ed, e, h1, h3, q1⟩ => by
    subst ed
    have ew := rel_int r1
    subst ew
    obtain ⟨t, g, ev, es, ht, hix, fp2, R2, c2⟩ := st_upd R1 e (z := z) h1 h3
    exact ⟨_, es, t, _, j, j.toNat, rfl, rfl, ht, hix, br.nx σ _ _ fp2 R2 (c1.trans c2) q1⟩
/-- s[j] += e -/
def sStG (i : Nat) (j : Int) (a : DT nf) : DTS nf := fun De env => ∃ v gr x n sd y, env[i]? = some (.ow v (stA nf gr x n sd)) ∧ stF x n sd j = some y ∧ 1 ≤ j ∧ j ≤ 3 ∧ a env fun d env1 => ∃ z gr1 x1 n1 sd1, d = .int z ∧ env1[i]? = some (.ow v (stA nf gr1 x1 n1 sd1)) ∧ De.nx (env1.set i (.ow v (stP gr1 x1 n1 sd1 j (y + z))))
theorem ds_stG {i : Nat} {j : Int} {o value : Expr} {q} {a : DT nf} {pos pos' ipos : Pos} (ho : PE X o (tVar i)) (hv : DE X nf value a)
    (ha : ∀ ov iv new, augStore (.Constant (.int j) q ipos) ov iv new = (do holding [new, ov, iv] (setItem ov iv new); release [new, ov, iv] []; pure .next) := by intros; rfl) :
    DS X nf (.AugAssign (.Subscript o (.Constant (.int j) q ipos) pos') .Add value pos) (sStG i j a) := ps_imp (ps_augS ho pe_int get_list hv ip_add set_list ha) fun E σ H ⟨env, fp, De, R, ⟨v, gr, x, n, sd, y, e, hy, h1, h3, q⟩, br⟩ => by
  obtain ⟨t, g, ev, es, ne, ht, hg, _⟩ := R.stAt e
  subst ev
  have hix : [V.ref g, .int x, .int n, .int sd][j.toNat]? = some (.int y) := by
    have hj : j = 1 ∨ j = 2 ∨ j = 3 := by omega
    rcases hj with rfl | rfl | rfl <;> (simp [stF] at hy; subst hy; rfl)
  refine ⟨_, es, t, _, j, _, rfl, rfl, SqL.of ht, by omega, hix, lift_run R q fun w H1 d env1 fp1 r1 R1 c1 ⟨z, gr1, x1, n1, sd1, ed, e1, q1⟩ => ?_⟩
  subst ed
  have ew := rel_int r1
  subst ew
  obtain ⟨t1, g1, ev1, es1, ht1, hix1, fp2, R2, c2⟩ := st_upd R1 e1 (z := y + z) h1 h3
  rw [es] at es1
  cases es1
  exact ⟨y, z, rfl, rfl, t, _, j, j.toNat, rfl, rfl, ht1, hix1, br.nx σ _ _ fp2 R2 (c1.trans c2) q1⟩
/-- s[1] = s[0].pop(0) -/
def sStPop (i : Nat) : DTS nf := fun De env => ∃ v y gr x n sd, env[i]? = some (.ow v (stA nf (y :: gr) x n sd)) ∧ De.nx (env.set i (.ow v (stA nf gr y n sd)))
theorem ds_stPop {i : Nat} {o o2 : Expr} {q q2 q3} {pos pos' ipos ipos2 ipos3 spos apos cpos : Pos} (ho : PE X o (tVar i)) (ho2 : PE X o2 (tVar i))
    (hbase : attributeBase (.Subscript o2 (.Constant (.int 0) q2 ipos2) spos) "pop" X.env (eval (.Subscript o2 (.Constant (.int 0) q2 ipos2) spos) X.env) = eval (.Subscript o2 (.Constant (.int 0) q2 ipos2) spos) X.env := by rfl)
    (hfew : ((backTo cpos (starEach [.Constant (.int 0) q3 ipos3] X.env)).all (fun x => !x.1) && (backToKw cpos (keywordEach [] X.env)).all (fun x => x.1.isSome) && decide (([.Constant (.int 0) q3 ipos3] : List Expr).length + ([] : List Keyword).length + (if ([] : List Keyword).isEmpty then 0 else 1) < 30)) = true := by rfl)
    (hline : (apos.endLine == cpos.line) = true := by rfl) (hst : starEach [.Constant (.int 0) q3 ipos3] X.env = (false, eval (.Constant (.int 0) q3 ipos3) X.env) :: starEach [] X.env := by rfl) (hplain : (backTo cpos (starEach [] X.env)).any (·.1) = false := by rfl)
    (hix : PlainIx (.Constant (.int 0) q2 ipos2) := by exact fun _ _ => rfl)
    (hs : swapsWithSole [.Subscript o (.Constant (.int 1) q ipos) pos'] (.Call (.Attribute (.Subscript o2 (.Constant (.int 0) q2 ipos2) spos) "pop" apos) [.Constant (.int 0) q3 ipos3] [] cpos) pos.line X.env = pure false := by rfl)
    (hw : swappedStores [.Subscript o (.Constant (.int 1) q ipos) pos'] (.Call (.Attribute (.Subscript o2 (.Constant (.int 0) q2 ipos2) spos) "pop" apos) [.Constant (.int 0) q3 ipos3] [] cpos) X.env = pure none := by rfl)
    (h1 : (assignEach [.Subscript o (.Constant (.int 1) q ipos) pos'] X.env).map (·.2) = [assign (.Subscript o (.Constant (.int 1) q ipos) pos') X.env] := by rfl)
    (ha : ∀ v, assign (.Subscript o (.Constant (.int 1) q ipos) pos') X.env v = (do
      let ov ← holding [v] (eval o X.env)
      let iv ← holding [v, ov] (eval (.Constant (.int 1) q ipos) X.env)
      standAt pos'
      holding [v, ov, iv] (setItem ov iv v)
      release [v, ov, iv] []) := by intro _; rfl) :
    DS X nf (.Assign [.Subscript o (.Constant (.int 1) q ipos) pos'] (.Call (.Attribute (.Subscript o2 (.Constant (.int 0) q2 ipos2) spos) "pop" apos) [.Constant (.int 0) q3 ipos3] [] cpos) pos) (sStPop i) := ps_imp (ps_asg (pe_bm PySem.F.plainAttrs_list PySem.F.slot_list_pop PySem.F.type_list_pop mt_popAt (pe_ix ix_list ho2 pe_int hix) (pa_cons pe_int pa_nil hst) hbase hfew hline hst hplain) (pg_sub ho pe_int set_list ha) hs hw h1) fun E σ H ⟨env, fp, De, R, ⟨v, y, gr, x, n, sd, e, q⟩, br⟩ => by
  obtain ⟨t, g, ev, es, ne, ht, hg, rep⟩ := R.stAt e
  obtain ⟨fp', R', c'⟩ := rep gr y n sd
  refine ⟨_, es, t, _, 0, .ref g, rfl, rfl, SqL.of ht, rfl, Or.inl ⟨rfl, _, SqL.of hg⟩, g, _, 0, 0, .int y, rfl, rfl, hg, by decide, by decide, seqIndex_of (Int.le_refl 0) (by simp), rfl, ?_⟩
  refine ⟨_, es, t, _, 1, 1, rfl, rfl, by rw [upd_ne ne]; exact ht, rfl, ?_⟩
  exact br.nx σ _ _ fp' R' c' q
/-- return [great, 0, 0, seed] -/
def sRetSt (K : PySem.W.Frag) (i : Nat) (r : DAs nf) : DTS nf := fun De env => ∃ v gr, env[i]? = some (.ow v (lstA K nf (gr.map .int))) ∧ r env fun xs env1 => ∃ x n sd, xs = [.int x, .int n, .int sd] ∧ env1[i]? = some (.ow v (lstA K nf (gr.map .int))) ∧ ∀ p, De.ro (.ref p) (stA nf gr x n sd) (env1.set i .un)
theorem rels_ints {H : Hp} : ∀ {vs : List V} {gr : List Int}, Rels K nf H vs (gr.map .int) → vs = gr.map V.int
  | _, [], .nil => rfl
  | _, s :: ss, .cons h r => by cases h; rw [rels_ints r]; rfl
theorem ds_retSt {i : Nat} {o : Expr} {es : List Expr} {r : DAs nf} {lpos pos : Pos} (ho : PE X o (tVar i)) (hr : DA X nf es r)
    (hs : starEach (o :: es) X.env = (false, eval o X.env) :: starEach es X.env := by rfl) : DS X nf (.Return (some (.List (o :: es) lpos)) pos) (sRetSt X.K i r) :=
  ps_imp (ps_ret (pe_lst (pa_cons ho hr hs))) fun E σ H ⟨env, fp, De, R, ⟨v, gr, ei, q⟩, br⟩ => by
    obtain ⟨g0, vs0, ev0, es0, hg0, _, _⟩ := R.lstAt ei
    refine ⟨_, es0, env, fp, _, R, q, fun vs H1 ds env1 fp1 r1 R1 c1 ⟨x, n, sd, exs, e1, q1⟩ => ?_⟩
    subst exs
    obtain ⟨fi, fp2, e2, ⟨g, ws, ev, ef, hg, rr⟩, R2', hn, sub⟩ := R1.1.take e1
    have R2 := R1.re R2' (Ch.refl.less fun a m => sub a (List.mem_append_right _ m))
    subst ef
    rw [es0] at e2
    cases e2
    cases ev
    have ew := rels_ints rr
    subst ew
    have evs : vs = [.int x, .int n, .int sd] := rels_ints (gr := [x, n, sd]) r1
    subst evs
    refine ⟨by show 4 ≤ sizeLine; decide, fun p hp => ?_⟩
    have xt : Xt H1 (upd H1 p (.lst [.ref g0, .int x, .int n, .int sd])) := Xt.new hp
    have npg : p ≠ g0 := fun z => by subst z; rw [hp] at hg; cases hg
    have np : p ∉ fp2 := fun m => by obtain ⟨u, e, _⟩ := R2.trk p m; rw [hp] at e; cases e
    refine br.ro (.ref p) (stA nf gr x n sd) σ _ _ fp2 [p, g0] ⟨p, g0, rfl, rfl, npg, upd_same, xt _ _ hg⟩ (R2.ext xt) (fun a m z => ?_) ?_ (q1 p)
    · rcases List.mem_cons.mp m with m | m
      · subst m; exact np z
      · exact hn a m z
    · have c2 := c1.trans (xt.ch (fp := fp1))
      refine ⟨c2.keep, fun a m => ?_, c2.there⟩
      rcases List.mem_append.mp m with m | m
      · rcases List.mem_cons.mp m with m | m
        · subst m; exact .inr (c1.there a hp)
        · exact c2.sub a (sub a (List.mem_append_left _ m))
      · exact c2.sub a (sub a (List.mem_append_right _ m))
end
end DL

/-! one rule an operator, whatever the data -/
namespace DL
open PySem L2
section
variable [Anch] {X : Cx} {nf : Addr → Nat} {K : PySem.W.Frag}
/-- the answer as it is, or frozen if it is a new thing -/
def orFz (Q : VK) : VK := fun v H' => Q v H' ∨ ∃ p u, v = .ref p ∧ H' p = some u ∧ Mut (some u) ∧ ∀ o, Q v (upd H' p (.frz o u))
def tFzO (t : TE) : TE := fun σ H Q => t σ H (orFz Q)
theorem pe_fzO {e : Expr} {t : TE} (h : PE X e t) : PE X e (tFzO t) := by
  refine ⟨fun pins s σ H Q I hw => ?_⟩
  refine thn (h.run pins s σ H _ I hw) fun v s1 ⟨x, H1, I1, r, q⟩ => ?_
  rcases q with q | ⟨p, u, ex, hp, mu, q⟩
  · exact ⟨x, H1, I1, r, q⟩
  · obtain ⟨o, I2⟩ := I1.lock hp mu
    exact ⟨x, _, I2, r, q o⟩
def rFzO (r : R2) : R2 := fun x y H Q => r x y H (orFz Q)
theorem OpD.or {r r' : R2} {f f' : D → D → D → Prop} (h : OpD K nf r f) (h' : OpD K nf r' f') : OpD K nf (fun x y H Q => r x y H Q ∨ r' x y H Q) (fun x y z => f x y z ∨ f' x y z) := by
  rintro H v w x y z r1 r2 (q | q) Q k
  · exact .inl (h H v w x y z r1 r2 q Q k)
  · exact .inr (h' H v w x y z r1 r2 q Q k)
theorem OpD.imp {r : R2} {f f' : D → D → D → Prop} (h : OpD K nf r f) (i : ∀ x y z, f' x y z → f x y z) : OpD K nf r f' := fun H v w x y z r1 r2 q Q k => h H v w x y z r1 r2 (i x y z q) Q k
theorem OpD.fzO {r : R2} {f : D → D → D → Prop} (m : ∀ x y H (Q Q' : VK), (∀ v H', Q v H' → Q' v H') → r x y H Q → r x y H Q') (h : OpD K nf r f) : OpD K nf (rFzO r) f := fun H v w x y z r1 r2 q Q k => m v w H _ _ (fun _ _ z => .inl z) (h H v w x y z r1 r2 q Q k)
/-- an operation whose answer is a D by a function -/
def fF (g : D → D → Option D) : D → D → D → Prop := fun x y z => g x y = some z
def dF (g : D → D → Option D) (da db : DT nf) : DT nf := fun env Q => da env fun x env1 => db env1 fun y env2 => ∃ z, g x y = some z ∧ Q z env2
/-! ### + -/
def addD : D → D → Option D
  | .int i, .int j => some (.int (i + j))
  | .str a, .str b => if a.length + b.length ≤ 1000000 then some (.str (a ++ b)) else none
  | .lst xs, .lst ys => if xs.length + ys.length ≤ 1000000 then some (.lst (xs ++ ys)) else none
  | _, _ => none
theorem od_catR : OpD K nf (rFzO fun x y H Q => ∃ l b xs zs, x = .ref l ∧ y = .ref b ∧ Rd H l (.lst xs) ∧ Rd H b (.lst zs) ∧ xs.length + zs.length ≤ sizeLine ∧ ∀ p, H p = none → Q (.ref p) (upd H p (.lst (xs ++ zs)))) fCatL := by
  rintro H v w x y z r1 r2 ⟨xs, ys, rfl, rfl, hl, rfl⟩ Q q
  cases r1 with
  | @lst a vs _ h1 rr1 =>
    cases r2 with
    | @lst b ws _ h2 rr2 =>
      refine ⟨a, b, vs, ws, rfl, rfl, h1.rd, h2.rd, by rw [rr1.length, rr2.length]; exact sz_ok hl, fun p hp => .inr ⟨p, _, rfl, upd_same, trivial, fun o => ?_⟩⟩
      have xt : Xt H (upd (upd H p (.lst (vs ++ ws))) p (.frz o (.lst (vs ++ ws)))) := xt_fz (Xt.new hp) hp
      exact q _ _ (.lst ⟨o, upd_same⟩ ((rr1.append rr2).mono xt.stp)) xt
theorem op_addG : OpR X (binaryOp .Add) (fun x y H Q => rI0 (fun i j => .int (i + j)) x y H Q ∨ (∃ i j, x = .str i ∧ y = .str j ∧ i.length + j.length ≤ sizeLine ∧ Q (.str (i ++ j)) H) ∨
    (∃ l b xs zs, x = .ref l ∧ y = .ref b ∧ Rd H l (.lst xs) ∧ Rd H b (.lst zs) ∧ xs.length + zs.length ≤ sizeLine ∧ ∀ p, H p = none → Q (.ref p) (upd H p (.lst (xs ++ zs))))) := op_add.or (op_add_str.or op_catR)
theorem od_addG : OpD K nf (rFzO fun x y H Q => rI0 (fun i j => .int (i + j)) x y H Q ∨ (∃ i j, x = .str i ∧ y = .str j ∧ i.length + j.length ≤ sizeLine ∧ Q (.str (i ++ j)) H) ∨
    (∃ l b xs zs, x = .ref l ∧ y = .ref b ∧ Rd H l (.lst xs) ∧ Rd H b (.lst zs) ∧ xs.length + zs.length ≤ sizeLine ∧ ∀ p, H p = none → Q (.ref p) (upd H p (.lst (xs ++ zs))))) (fF addD) := by
  rintro H v w x y z r1 r2 e Q q
  have e : addD x y = some z := e
  unfold addD at e
  split at e
  · cases e
    exact .inl ⟨_, _, rel_int r1, rel_int r2, .inl (q _ H (.int _) Xt.refl)⟩
  · split at e
    · rename_i h
      cases e
      exact .inr (.inl ⟨_, _, rel_str r1, rel_str r2, sz_ok h, .inl (q _ H (.str _) Xt.refl)⟩)
    · cases e
  · split at e
    · rename_i h
      cases e
      exact .inr (.inr (od_catR H v w _ _ _ r1 r2 ⟨_, _, rfl, rfl, h, rfl⟩ Q q))
    · cases e
  · cases e
variable {a b c : Expr} {pos : Pos} {da db dc : DT nf}
theorem de_addG (ha : DE X nf a da) (hb : DE X nf b db) : DE X nf (.BinOp a .Add b pos) (dF addD da db) := pe_imp (pe_fzO (pe_op op_addG ha hb)) fun σ H Q h => lift_op od_addG σ H Q h
/-! ### x[i] -/
def ixD : D → D → Option D
  | .lst xs, .int i => atI xs i
  | .tup xs, .int i => atI xs i
  | .str s, .int i => if s.length ≤ 1000000 then (atI s.cps.toList i).map fun c => .str ⟨#[c]⟩ else none
  | .dct kds, y => (keyOf y).bind (valD kds)
  | _, _ => none
def rDG : R2 := fun x y H Q => ∃ a v, x = .ref a ∧ DGet H a y (some v) ∧ Q v H
theorem ix_dict (hu : X.A.units + 1 < cLine) : IxR X rDG := by
  intro value slice pins s σ H x y v u Q I rx ry h hs
  obtain ⟨a, z, rfl, g, q⟩ := h
  cases rx
  have h1 := d_getItem (A := X.A) (E := X.xe) (Q := EP X pins σ Q) hu I g ry fun w' s3 I3 rw' => ⟨z, H, I3, rw', q⟩
  exact PyProof.Rows.tail_any (dict_typeIs I g) PySem.F.slot_dict_getitem.lookup h1 hs
theorem ixD_of {x y z : D} (e : ixD x y = some z) : (fIxL x y z ∨ fIxT x y z ∨ fIxS x y z) ∨ fDG x y z := by
  cases x with
  | lst xs => cases y <;> simp only [ixD] at e <;> first | cases e | exact .inl (.inl ⟨_, _, rfl, rfl, e⟩)
  | tup xs => cases y <;> simp only [ixD] at e <;> first | cases e | exact .inl (.inr (.inl ⟨_, _, rfl, rfl, e⟩))
  | str s =>
    cases y with
    | int i =>
      simp only [ixD] at e
      split at e
      · rename_i h
        cases hc : atI s.cps.toList i with
        | none => rw [hc] at e; cases e
        | some c =>
          rw [hc] at e
          simp only [Option.map_some, Option.some.injEq] at e
          exact .inl (.inr (.inr ⟨_, _, c, rfl, rfl, h, hc, e.symm⟩))
      · cases e
    | _ => simp only [ixD] at e; cases e
  | dct kds =>
    simp only [ixD] at e
    cases hk : keyOf y with
    | none => rw [hk] at e; cases e
    | some k => rw [hk] at e; exact .inr ⟨_, k, rfl, hk, e⟩
  | _ => simp only [ixD] at e; cases e
theorem od_dg : OpD K nf rDG fDG := by
  rintro H v w x y z r1 r2 ⟨kds, k, rfl, e1, e2⟩ Q q
  cases r1 with
  | @dct a ob kvs _ ha rr =>
    obtain ⟨u, e3, r3⟩ := rr.val e2
    have ew := key_of r2 e1
    subst ew
    exact ⟨a, u, rfl, .inl ⟨kvs, k, .inr ⟨ob, ha⟩, rfl, e3.symm⟩, q u H r3 Xt.refl⟩
theorem od_ixG : OpD K nf (fun x y H Q => rIx K x y H Q ∨ rDG x y H Q) (fF ixD) := ((od_ixL.or (od_ixT.or od_ixS)).or od_dg).imp fun _ _ _ e => ixD_of e
theorem de_ixG (hu : X.A.units + 1 < cLine) (ha : DE X nf a da) (hb : DE X nf b db) (hs : PlainIx b := by exact fun _ _ => rfl) : DE X nf (.Subscript a b pos) (dF ixD da db) := pe_imp (pe_ix (ix_seq.or (ix_dict hu)) ha hb hs) fun σ H Q h => lift_op od_ixG σ H Q h
/-! ### in -/
def signOf (s : Str) : Option Nat := match s.cps.toList with | [c] => some c | _ => none
theorem signOf_eq {s : Str} {c : Nat} (h : signOf s = some c) : s = ⟨#[c]⟩ := by
  unfold signOf at h
  split at h
  · rename_i c' e
    cases h
    cases s with
    | mk cps => simp at e; cases cps; simp at e; subst e; rfl
  · cases h
def inD : D → D → Option Bool
  | x, .lst xs => (flatD x).bind fun v => (flatDs xs).map fun us => inV v us
  | x, .tup xs => (flatD x).bind fun v => (flatDs xs).map fun us => inV v us
  | .str x, .str s => (signOf x).map fun c => decide (c ∈ s.cps.toList)
  | x, .dct kds => (keyOf x).map fun k => (valD kds k).isSome
  | _, _ => none
def inF (neg : Bool) : D → D → Option D := fun x y => (inD x y).map fun b => .bl (if neg then !b else b)
theorem op_dIn (hu : X.A.units + 1 < cLine) : OpR X (compareOp .In) (fun y x H2 Q => ∃ a o, x = .ref a ∧ DGet H2 a y o ∧ Q (.bl o.isSome) H2) := by
  intro pins s σ H x y v u Q I rx ry h
  obtain ⟨a, o, rfl, g, q⟩ := h
  cases ry
  exact d_in hu I g rx fun s3 I3 => ⟨.bl o.isSome, H, I3, rfl, q⟩
theorem op_dNotIn (hu : X.A.units + 1 < cLine) : OpR X (compareOp .NotIn) (fun y x H2 Q => ∃ a o, x = .ref a ∧ DGet H2 a y o ∧ Q (.bl (!o.isSome)) H2) := by
  intro pins s σ H x y v u Q I rx ry h
  obtain ⟨a, o, rfl, g, q⟩ := h
  cases ry
  exact d_notIn hu I g rx fun s3 I3 => ⟨.bl (!o.isSome), H, I3, rfl, q⟩
theorem inD_of {x y : D} {b : Bool} (e : inD x y = some b) (neg : Bool) : fIn neg x y (.bl (if neg then !b else b)) ∨ (∃ (c : Nat) (s : Str), x = .str ⟨#[c]⟩ ∧ y = .str s ∧ b = decide (c ∈ s.cps.toList)) ∨ fDIn neg x y (.bl (if neg then !b else b)) := by
  cases y with
  | lst xs =>
    simp only [inD] at e
    cases h1 : flatD x with
    | none => rw [h1] at e; cases e
    | some v =>
      cases h2 : flatDs xs with
      | none => rw [h1, h2] at e; cases e
      | some us =>
        rw [h1, h2] at e
        simp only [Option.bind_some, Option.map_some, Option.some.injEq] at e
        subst e
        exact .inl ⟨xs, v, us, .inl rfl, h1, h2, rfl⟩
  | tup xs =>
    simp only [inD] at e
    cases h1 : flatD x with
    | none => rw [h1] at e; cases e
    | some v =>
      cases h2 : flatDs xs with
      | none => rw [h1, h2] at e; cases e
      | some us =>
        rw [h1, h2] at e
        simp only [Option.bind_some, Option.map_some, Option.some.injEq] at e
        subst e
        exact .inl ⟨xs, v, us, .inr rfl, h1, h2, rfl⟩
  | str s =>
    cases x with
    | str t =>
      simp only [inD] at e
      cases h : signOf t with
      | none => rw [h] at e; cases e
      | some c =>
        rw [h] at e
        simp only [Option.map_some, Option.some.injEq] at e
        have := signOf_eq h
        subst this
        exact .inr (.inl ⟨c, s, rfl, rfl, e.symm⟩)
    | _ => simp only [inD] at e; cases e
  | dct kds =>
    have e' : (keyOf x).map (fun k => (valD kds k).isSome) = some b := by
      cases x <;> simpa only [inD] using e
    cases h : keyOf x with
    | none => rw [h] at e'; cases e'
    | some k =>
      rw [h] at e'
      simp only [Option.map_some, Option.some.injEq] at e'
      subst e'
      exact .inr (.inr ⟨kds, k, rfl, h, rfl⟩)
  | _ => cases x <;> simp only [inD] at e <;> cases e
theorem od_inG : OpD K nf (fun x y H Q => rIn K false x y H Q ∨ (∃ (c : Nat) (z : Str), x = .str ⟨#[c]⟩ ∧ y = .str z ∧ Q (.bl (decide (c ∈ z.cps.toList))) H) ∨ (∃ a o, y = .ref a ∧ DGet H a x o ∧ Q (.bl o.isSome) H)) (fF (inF false)) :=
  (od_in.or (od_inS.or od_din)).imp fun x y z e => by
    have e : (inD x y).map (fun b => D.bl (if false = true then !b else b)) = some z := e
    cases h : inD x y with
    | none => rw [h] at e; cases e
    | some b =>
      rw [h] at e
      simp only [Option.map_some, Option.some.injEq] at e
      subst e
      rcases inD_of h false with q | ⟨c, s, e1, e2, e3⟩ | q
      · exact .inl q
      · exact .inr (.inl ⟨c, s, e1, e2, by rw [e3]; rfl⟩)
      · exact .inr (.inr q)
/-- not in: a text in a text is left out -/
def ninF : D → D → Option D := fun x y => match y with | .str _ => none | _ => inF true x y
theorem od_ninG : OpD K nf (fun x y H Q => rIn K true x y H Q ∨ (∃ a o, y = .ref a ∧ DGet H a x o ∧ Q (.bl (!o.isSome)) H)) (fF ninF) :=
  (od_in.or od_dnin).imp fun x y z e => by
    have e : ninF x y = some z := e
    unfold ninF at e
    split at e
    · cases e
    · rename_i hy
      have e : (inD x y).map (fun b => D.bl (if true = true then !b else b)) = some z := e
      cases h : inD x y with
      | none => rw [h] at e; cases e
      | some b =>
        rw [h] at e
        simp only [Option.map_some, Option.some.injEq] at e
        subst e
        rcases inD_of h true with q | ⟨c, s, e1, e2, e3⟩ | q
        · exact .inl q
        · exact absurd e2 (hy s)
        · exact .inr q
theorem de_inG (hu : X.A.units + 1 < cLine) (ha : DE X nf a da) (hb : DE X nf b db) (hm : behindInMarks .In b = false := by rfl) : DE X nf (.Compare a [.In] [b] pos) (dF (inF false) da db) := de_cmp (op_in_seq.or (op_in_sign.or (op_dIn hu))) od_inG ha hb hm
theorem dc_inG (hu : X.A.units + 1 < cLine) (ha : DE X nf a da) (hb : DE X nf b db) (hm : behindInMarks .In b = false := by rfl) : DC X nf (.Compare a [.In] [b] pos) (dBv (dF (inF false) da db)) := dc_cmp (op_in_seq.or (op_in_sign.or (op_dIn hu))) od_inG ha hb hm
theorem de_ninG (hu : X.A.units + 1 < cLine) (ha : DE X nf a da) (hb : DE X nf b db) (hm : behindInMarks .NotIn b = false := by rfl) : DE X nf (.Compare a [.NotIn] [b] pos) (dF ninF da db) := de_cmp (op_notIn_seq.or (op_dNotIn hu)) od_ninG ha hb hm
theorem dc_ninG (hu : X.A.units + 1 < cLine) (ha : DE X nf a da) (hb : DE X nf b db) (hm : behindInMarks .NotIn b = false := by rfl) : DC X nf (.Compare a [.NotIn] [b] pos) (dBv (dF ninF da db)) := dc_cmp (op_notIn_seq.or (op_dNotIn hu)) od_ninG ha hb hm
/-! ### ==: scalars, nested data, equal dicts -/
def eqQ (neg : Bool) : D → D → D → Prop := fun x y z => fEq neg x y z ∨ fEqD neg x y z ∨ fEqDct (!neg) x y z
def dEqG (neg : Bool) (da db : DT nf) : DT nf := dOp (eqQ neg) da db
theorem de_eqG (hu : X.A.units + 64 < cLine) (ha : DE X nf a da) (hb : DE X nf b db) : DE X nf (.Compare a [.Eq] [b] pos) (dEqG false da db) := de_cmp (op_eq.or ((op_eqD hu).or (op_eqDR (by omega)))) (od_eq.or (od_eqD.or od_eqDct)) ha hb (nomark _)
theorem dc_eqG (hu : X.A.units + 64 < cLine) (ha : DE X nf a da) (hb : DE X nf b db) : DC X nf (.Compare a [.Eq] [b] pos) (dBv (dEqG false da db)) := dc_cmp (op_eq.or ((op_eqD hu).or (op_eqDR (by omega)))) (od_eq.or (od_eqD.or od_eqDct)) ha hb (nomark _)
theorem de_neG (hu : X.A.units + 64 < cLine) (ha : DE X nf a da) (hb : DE X nf b db) : DE X nf (.Compare a [.NotEq] [b] pos) (dEqG true da db) := de_cmp (op_ne.or ((op_neD hu).or (op_neDR (by omega)))) (od_ne.or (od_neD.or od_neDct)) ha hb (nomark _)
theorem dc_neG (hu : X.A.units + 64 < cLine) (ha : DE X nf a da) (hb : DE X nf b db) : DC X nf (.Compare a [.NotEq] [b] pos) (dBv (dEqG true da db)) := dc_cmp (op_ne.or ((op_neD hu).or (op_neDR (by omega)))) (od_ne.or (od_neD.or od_neDct)) ha hb (nomark _)
/-! ### a < b < c, ints -/
def dChain (g g' : Int → Int → Bool) (da db dc : DT nf) : DT nf := fun env Q => da env fun x env1 => db env1 fun y env2 => ∃ i j, x = .int i ∧ y = .int j ∧ if g i j = true then dc env2 fun z env3 => ∃ k, z = .int k ∧ Q (.bl (g' j k)) env3 else Q (.bl false) env2
theorem lift_chain {g g' : Int → Int → Bool} (σ : St) (H : Hp) (Q : VK) (h : lift K nf (dChain g g' da db dc) σ H Q) : tChain (rI0 fun i j => .bl (g i j)) (rI0 fun i j => .bl (g' i j)) (lift K nf da) (lift K nf db) (lift K nf dc) σ H Q := by
  obtain ⟨env, fp, Qd, R, h, k⟩ := h
  refine lift_run R h fun v H1 x env1 fp1 r1 R1 c1 h1 => ?_
  refine lift_run R1 h1 fun w H2 y env2 fp2 r2 R2 c2 ⟨i, j, ex, ey, q⟩ => ?_
  subst ex ey
  have e1 := rel_int r1
  have e2 := rel_int r2
  subst e1 e2
  refine ⟨i, j, rfl, rfl, g i j, rfl, ?_⟩
  cases hg : g i j with
  | true =>
    rw [hg, if_pos rfl] at q
    rw [if_pos rfl]
    refine lift_run R2 q fun u H3 z env3 fp3 r3 R3 c3 ⟨m, ez, q3⟩ => ?_
    subst ez
    have e3 := rel_int r3
    subst e3
    exact ⟨j, m, rfl, rfl, k _ H3 _ env3 fp3 (.bl _) R3 ((c1.trans c2).trans c3) q3⟩
  | false =>
    rw [hg, if_neg Bool.false_ne_true] at q
    rw [if_neg Bool.false_ne_true]
    exact k _ H2 _ env2 fp2 (.bl false) R2 (c1.trans c2) q
theorem de_chain {op op' : CmpOp} {g g' : Int → Int → Bool} (ho : OpR X (compareOp op) (rI0 fun i j => .bl (g i j))) (ho' : OpR X (compareOp op') (rI0 fun i j => .bl (g' i j))) (ha : DE X nf a da) (hb : DE X nf b db) (hc : DE X nf c dc)
    (hm : lastMarks [op, op'] [b, c] = false := by with_unfolding_all rfl) : DE X nf (.Compare a [op, op'] [b, c] pos) (dChain g g' da db dc) := pe_imp (pe_chain ho ho' ha hb hc hm) lift_chain
theorem dc_chain {op op' : CmpOp} {g g' : Int → Int → Bool} (ho : OpR X (compareOp op) (rI0 fun i j => .bl (g i j))) (ho' : OpR X (compareOp op') (rI0 fun i j => .bl (g' i j))) (ha : DE X nf a da) (hb : DE X nf b db) (hc : DE X nf c dc)
    (hm : lastMarks [op, op'] [b, c] = false := by with_unfolding_all rfl) : DC X nf (.Compare a [op, op'] [b, c] pos) (dBv (dChain g g' da db dc)) := pt_imp (pt_chain ho ho' ha hb hc hm) (lift_B2 lift_chain)
/-! ### len, list -/
theorem CbD.or {r r' : List V → Hp → VK → Prop} {f f' : List D → D → Prop} (h : CbD K nf r f) (h' : CbD K nf r' f') : CbD K nf (fun xs H Q => r xs H Q ∨ r' xs H Q) (fun x z => f x z ∨ f' x z) := by
  rintro H vs ds d rr (q | q) Q k
  · exact .inl (h H vs ds d rr q Q k)
  · exact .inr (h' H vs ds d rr q Q k)
theorem CbD.imp {r : List V → Hp → VK → Prop} {f f' : List D → D → Prop} (h : CbD K nf r f) (i : ∀ x z, f' x z → f x z) : CbD K nf r f' := fun H vs ds d rr q Q k => h H vs ds d rr (i _ _ q) Q k
theorem call_lenR : CallR X (.builtin "len") (fun xs H Q => ∃ a kvs, xs = [V.ref a] ∧ Rd H a (.dK kvs) ∧ Q (.int kvs.length) H) := by
  intro pins s σ H xs us Q I r h
  obtain ⟨a, kvs, rfl, ha, q⟩ := h
  obtain ⟨u, rfl, ru⟩ := vals1 r
  cases ru
  exact d_len I ha fun t s' I' => ⟨.int kvs.length, H, I', ⟨t, rfl⟩, q⟩
theorem call_lenG : CallR X (.builtin "len") (fun xs H Q => (∃ p ys, xs = [.ref p] ∧ (SqL X.K H p ys ∨ SqT X.K H p ys) ∧ Q (.int ys.length) H) ∨ (∃ z, xs = [.str z] ∧ z.length ≤ sizeLine ∧ Q (.int z.length) H) ∨ ∃ a kvs, xs = [V.ref a] ∧ Rd H a (.dK kvs) ∧ Q (.int kvs.length) H) :=
  L2.CallR.or call_len_seq (L2.CallR.or call_len_str call_lenR)
def fLenD : List D → D → Prop := fun ds d => ∃ kds, ds = [.dct kds] ∧ d = .int kds.length
theorem cd_lenD : CbD K nf (fun xs H Q => ∃ a kvs, xs = [V.ref a] ∧ Rd H a (.dK kvs) ∧ Q (.int kvs.length) H) fLenD := by
  rintro H vs ds d r ⟨kds, rfl, rfl⟩ Q q
  obtain ⟨v, rfl, h⟩ := rels1x r
  cases h with
  | dct h rr => exact ⟨_, _, rfl, .inr ⟨_, h⟩, by rw [rr.length]; exact q _ H (.int _) Xt.refl⟩
def lenD : D → Option Int
  | .lst xs => some xs.length
  | .tup xs => some xs.length
  | .dct xs => some xs.length
  | .str z => if z.length ≤ 1000000 then some z.length else none
  | _ => none
def fLenG : List D → D → Prop := fun ds d => ∃ x n, ds = [x] ∧ lenD x = some n ∧ d = .int n
theorem cd_lenG : CbD K nf (fun xs H Q => (∃ p ys, xs = [.ref p] ∧ (SqL K H p ys ∨ SqT K H p ys) ∧ Q (.int ys.length) H) ∨ (∃ z, xs = [.str z] ∧ z.length ≤ sizeLine ∧ Q (.int z.length) H) ∨ ∃ a kvs, xs = [V.ref a] ∧ Rd H a (.dK kvs) ∧ Q (.int kvs.length) H) fLenG :=
  (cd_len.or (cd_lenS.or cd_lenD)).imp fun ds d ⟨x, n, e, h, ed⟩ => by
    subst e ed
    cases x with
    | lst xs => cases h; exact .inl ⟨xs, .inl rfl, rfl⟩
    | tup xs => cases h; exact .inl ⟨xs, .inr rfl, rfl⟩
    | dct xs => cases h; exact .inr (.inr ⟨xs, rfl, rfl⟩)
    | str z =>
      simp only [lenD] at h
      split at h
      · rename_i hl
        cases h
        exact .inr (.inl ⟨z, rfl, hl, rfl⟩)
      · cases h
    | _ => cases h
end
end DL

namespace DL
open PySem L2
section
variable {nf : Addr → Nat}
/-! ### loops by invariants, heap-free -/
theorem for_inv {g : DG nf} {b : DTS nf} {De : EndsD nf} (Iv : List D → EV nf → Prop) (step : ∀ x xs env (R : EV nf → Prop), Iv (x :: xs) env → (∀ env', Iv xs env' → R env') → g x env fun env1 => b { De with nx := R, ct := R, bk := De.nx } env1) (fin : ∀ env, Iv [] env → De.nx env) :
    ∀ ds env, Iv ds env → dFor g b ds De env
  | [], env, h => fin env h
  | x :: xs, env, h => step x xs env (dFor g b xs De) h fun env' h' => for_inv Iv step fin xs env' h'
theorem lc_inv {g : DG nf} {dt : DB nf} {de : DT nf} {js : List Nat} {Q : List D → EV nf → Prop} (Iv : List D → List D → EV nf → Prop)
    (step : ∀ x xs acc env (R : List D → EV nf → Prop), Iv (x :: xs) acc env → (∀ acc' env', Iv xs acc' env' → R acc' env') → g x env fun env1 => dt env1 fun b env2 => if b = true then de env2 fun d env3 => acc.length < 1000000 ∧ R (acc ++ [d]) (wipeD env3 js) else R acc (wipeD env2 js))
    (fin : ∀ acc env, Iv [] acc env → Q acc env) : ∀ ds acc env, Iv ds acc env → dComp g dt de js ds acc env Q
  | [], acc, env, h => fin acc env h
  | x :: xs, acc, env, h => step x xs acc env (fun acc env => dComp g dt de js xs acc env Q) h fun acc' env' h' => lc_inv Iv step fin xs acc' env' h'
/-- a comprehension over one name whose parts change nothing -/
theorem lc_pure {j : Nat} {dt : DB nf} {de : DT nf} {Q : List D → EV nf → Prop} {env : EV nf} (p : D → Bool) (f : D → D) (hj : env[j]? = some .un) {ds : List D}
    (ht : ∀ x ∈ ds, ∀ R : Bool → EV nf → Prop, R (p x) (env.set j (.fz x)) → dt (env.set j (.fz x)) R) (he : ∀ x ∈ ds, p x = true → ∀ R : D → EV nf → Prop, R (f x) (env.set j (.fz x)) → de (env.set j (.fz x)) R)
    {acc : List D} (hl : acc.length + ds.length ≤ 1000000) (q : Q (acc ++ (ds.filter p).map f) env) : dComp (gN j) dt de [j] ds acc env Q := by
  have hlen : j < env.length := (List.getElem?_eq_some_iff.mp hj).1
  have hback : ∀ x : D, (env.set j (.fz x)).set j .un = env := fun x => by
    rw [List.set_set]
    apply List.ext_getElem?
    intro i
    by_cases hi : j = i
    · subst hi; rw [List.getElem?_set_self hlen, hj]
    · rw [List.getElem?_set_ne hi]
  induction ds generalizing acc with
  | nil => simpa [dComp] using q
  | cons x xs ih =>
    show gN j x env _
    refine ⟨hlen, ?_⟩
    refine ht x List.mem_cons_self _ ?_
    have hl' : acc.length + xs.length + 1 ≤ 1000000 := by rw [List.length_cons] at hl; omega
    have ih' := fun acc (h : acc.length + xs.length ≤ 1000000) (q : Q (acc ++ (xs.filter p).map f) env) => ih (acc := acc) (fun y m => ht y (List.mem_cons_of_mem _ m)) (fun y m => he y (List.mem_cons_of_mem _ m)) h q
    cases hp : p x with
    | true =>
      rw [if_pos rfl]
      refine he x List.mem_cons_self hp _ ⟨by omega, ?_⟩
      show dComp (gN j) dt de [j] xs (acc ++ [f x]) ((env.set j (.fz x)).set j .un) Q
      rw [hback]
      refine ih' _ (by rw [List.length_append]; show acc.length + 1 + xs.length ≤ _; omega) ?_
      rw [List.filter_cons, hp] at q
      simpa using q
    | false =>
      rw [if_neg Bool.false_ne_true]
      show dComp (gN j) dt de [j] xs acc ((env.set j (.fz x)).set j .un) Q
      rw [hback]
      refine ih' _ (by omega) ?_
      rw [List.filter_cons, hp] at q
      simpa using q
/-- the same for a dict -/
theorem dc_pure {j : Nat} {dk dv : DT nf} {Q : List (Key × D) → EV nf → Prop} {env : EV nf} (fk : D → Key) (f : D → D) (hj : env[j]? = some .un) {ds : List D}
    (hk : ∀ x ∈ ds, ∀ R : D → EV nf → Prop, R (kD (fk x)) (env.set j (.fz x)) → dk (env.set j (.fz x)) R) (he : ∀ x ∈ ds, ∀ R : D → EV nf → Prop, R (f x) (env.set j (.fz x)) → dv (env.set j (.fz x)) R)
    {acc : List (Key × D)} (hl : acc.length + ds.length ≤ 1000000) (q : Q (ds.foldl (fun acc x => putD acc (fk x) (f x)) acc) env) : dCompD (gN j) dYes dk dv [j] ds acc env Q := by
  have hlen : j < env.length := (List.getElem?_eq_some_iff.mp hj).1
  have hback : ∀ x : D, (env.set j (.fz x)).set j .un = env := fun x => by
    rw [List.set_set]
    apply List.ext_getElem?
    intro i
    by_cases hi : j = i
    · subst hi; rw [List.getElem?_set_self hlen, hj]
    · rw [List.getElem?_set_ne hi]
  have key : ∀ k, keyOf (kD k) = some k := fun k => by cases k <;> rfl
  induction ds generalizing acc with
  | nil => simpa [dCompD] using q
  | cons x xs ih =>
    show gN j x env _
    refine ⟨hlen, ?_⟩
    show dk (env.set j (.fz x)) _
    refine hk x List.mem_cons_self _ (he x List.mem_cons_self _ ⟨fk x, key _, by rw [List.length_cons] at hl; omega, ?_⟩)
    show dCompD (gN j) dYes dk dv [j] xs (putD acc (fk x) (f x)) ((env.set j (.fz x)).set j .un) Q
    rw [hback]
    refine ih (fun y m => hk y (List.mem_cons_of_mem _ m)) (fun y m => he y (List.mem_cons_of_mem _ m)) ?_ q
    have := putD_len acc (fk x) (f x)
    rw [List.length_cons] at hl
    omega
end
end DL

namespace DL
open PySem L2
section
variable {K : PySem.W.Frag} {nf : Addr → Nat}
@[simp] theorem isi_str {s : Str} {T : String} {d : D} : fIsi K [.str s, .ty T] d ↔ ∃ b, kitB "str" T = some b ∧ d = .bl b := by
  constructor
  · rintro ⟨x, c, t, u, b, e, h, e1, e2, e3, ed⟩
    cases e; cases e1; cases e2
    exact ⟨b, e3, ed⟩
  · rintro ⟨b, h, e⟩
    exact ⟨_, _, _, _, b, rfl, (fun C fs z => by cases z), rfl, rfl, h, e⟩
@[simp] theorem isi_int {s : Int} {T : String} {d : D} : fIsi K [.int s, .ty T] d ↔ ∃ b, kitB "int" T = some b ∧ d = .bl b := by
  constructor
  · rintro ⟨x, c, t, u, b, e, h, e1, e2, e3, ed⟩
    cases e; cases e1; cases e2
    exact ⟨b, e3, ed⟩
  · rintro ⟨b, h, e⟩
    exact ⟨_, _, _, _, b, rfl, (fun C fs z => by cases z), rfl, rfl, h, e⟩
@[simp] theorem isi_dct {s : List (Key × D)} {T : String} {d : D} : fIsi K [.dct s, .ty T] d ↔ ∃ b, kitB "dict" T = some b ∧ d = .bl b := by
  constructor
  · rintro ⟨x, c, t, u, b, e, h, e1, e2, e3, ed⟩
    cases e; cases e1; cases e2
    exact ⟨b, e3, ed⟩
  · rintro ⟨b, h, e⟩
    exact ⟨_, _, _, _, b, rfl, (fun C fs z => by cases z), rfl, rfl, h, e⟩
@[simp] theorem kb1 : kitB "str" "str" = some true := by decide +kernel
@[simp] theorem kb2 : kitB "int" "bool" = some false := by decide +kernel
@[simp] theorem kb3 : kitB "str" "bool" = some false := by decide +kernel
@[simp] theorem kb4 : kitB "int" "int" = some true := by decide +kernel
@[simp] theorem kb5 : kitB "str" "int" = some false := by decide +kernel
@[simp] theorem kb6 : kitB "dict" "dict" = some true := by decide +kernel
/-- isinstance with an own class -/
theorem isi_own {C : Addr} {fs : List (Str × D)} (h : IsiC K C) {d : D} (e : d = .bl true) : fIsi K [.obj C fs, .cls C] d := ⟨_, _, _, _, true, rfl, (fun C' fs' z => by cases z; exact h), rfl, rfl, if_pos (beq_self_eq_true _), e⟩
theorem isi_dctO {C : Addr} {s : List (Key × D)} (h : PySem.W.kitOne K (.type "dict") (.ref C) = some false) {d : D} (e : d = .bl false) : fIsi K [.dct s, .cls C] d := ⟨_, _, _, _, false, rfl, (fun C fs z => by cases z), rfl, rfl, h, e⟩
end
end DL

/-! steps: one lemma a construct, for goals in continuation form -/
namespace DL
open PySem L2
section
variable {nf : Addr → Nat} {K : PySem.W.Frag} {De : EndsD nf} {env env' env1 : EV nf} {i j n : Nat} {d x y z : D} {a b : DTS nf} {da db dc : DT nf} {ta tb tc : DB nf} {ra : DAs nf} {rm : DM nf} {Q : D → EV nf → Prop} {QB : Bool → EV nf → Prop} {QA : List D → EV nf → Prop} {QM : List AD → EV nf → Prop} {QN : EV nf → Prop}
/-! tests -/
theorem ite_s {c : Bool} {A B : Prop} (h1 : c = true → A) (h2 : c = false → B) : if c = true then A else B := by
  cases c with
  | true => exact h1 rfl
  | false => exact h2 rfl
theorem iteT_s {c : Bool} {A B : Prop} (e : c = true) (h : A) : if c = true then A else B := by rw [if_pos e]; exact h
theorem iteF_s {c : Bool} {A B : Prop} (e : c = false) (h : B) : if c = true then A else B := by rw [if_neg (by rw [e]; exact Bool.false_ne_true)]; exact h
/-! statements -/
theorem sNext_s (h : De.nx env) : sNext De env := h
theorem sSeq_s (h : a { De with nx := b De } env) : sSeq a b De env := h
theorem sBrk_s (h : De.bk env) : sBrk De env := h
theorem sCnt_s (h : De.ct env) : sCnt De env := h
theorem sIf_s (h : tc env fun k env1 => if k = true then a De env1 else b De env1) : sIf tc a b De env := h
theorem sRet_s (h : da env De.rt) : sRet da De env := h
theorem sRetN_s (h : De.rt .non env) : sRetN De env := h
theorem sDrop_s (h : da env fun _ env1 => De.nx env1) : sDrop da De env := h
def SetK (i : Nat) (De : EndsD nf) : D → EV nf → Prop := fun d env1 => i < env1.length ∧ De.nx (env1.set i (.fz d))
theorem sSet_s (h : da env (SetK i De)) : sSet i da De env := h
theorem setK_s (hl : Nat.blt i env.length = true) (e : env.set i (.fz d) = env') (h : De.nx env') : SetK i De d env := ⟨Nat.blt_eq.mp hl, e ▸ h⟩
theorem sAsg_s {g : DG nf} (h : da env fun d env1 => g d env1 De.nx) : sAsg da g De env := h
theorem gN_s (hl : Nat.blt i env.length = true) (e : env.set i (.fz d) = env') (h : QN env') : gN i d env QN := ⟨Nat.blt_eq.mp hl, e ▸ h⟩
theorem gT_s {g : DGs nf} {ds : List D} (hn : ds.length = n) (h : g ds env QN) : gT n g (.tup ds) env QN := ⟨ds, rfl, hn, h⟩
theorem gsNil_s (h : QN env) : gsNil [] env QN := ⟨rfl, h⟩
theorem gsCons_s {g : DG nf} {r : DGs nf} {ds : List D} (h : g d env fun env1 => r ds env1 QN) : gsCons g r (d :: ds) env QN := ⟨d, ds, rfl, h⟩
/-! owned lists -/
theorem sSetL_s (h : ra env fun xs env1 => xs.length ≤ 1000000 ∧ i < env1.length ∧ ∀ p, De.nx (env1.set i (.ow (.ref p) (lstA K nf xs)))) : sSetL K i ra De env := h
theorem setL_s {xs : List D} {env' : Addr → EV nf} (hz : Nat.ble xs.length 1000000 = true) (hl : Nat.blt i env.length = true) (e : ∀ p, env.set i (.ow (.ref p) (lstA K nf xs)) = env' p) (h : ∀ p, De.nx (env' p)) : xs.length ≤ 1000000 ∧ i < env.length ∧ ∀ p, De.nx (env.set i (.ow (.ref p) (lstA K nf xs))) := ⟨Nat.le_of_ble_eq_true hz, Nat.blt_eq.mp hl, fun p => by rw [e p]; exact h p⟩
theorem nxe_s {f : EV nf → Prop} (e : env = env') (h : f env') : f env := e ▸ h
def AppK (K : PySem.W.Frag) (i : Nat) (De : EndsD nf) : D → EV nf → Prop := fun d env1 => ∃ v xs, env1[i]? = some (.ow v (lstA K nf xs)) ∧ xs.length < 1000000 ∧ De.nx (env1.set i (.ow v (lstA K nf (xs ++ [d]))))
theorem appW_s {v : V} {xs : List D} (e : env[i]? = some (.ow v (lstA K nf xs))) (h : da env (AppK K i De)) : (∃ v xs, env[i]? = some (SD.ow v (lstA K nf xs))) ∧ sApp K i da De env := ⟨⟨v, xs, e⟩, h⟩
theorem appK_s {v : V} {xs : List D} (e : env[i]? = some (.ow v (lstA K nf xs))) (hl : xs.length < 1000000) (e2 : env.set i (.ow v (lstA K nf (xs ++ [d]))) = env') (h : De.nx env') : AppK K i De d env := ⟨v, xs, e, hl, e2 ▸ h⟩
theorem dVarF_s {v : V} {xs : List D} (e : env[i]? = some (.ow v (lstA K nf xs))) (e2 : env.set i (.fz (.lst xs)) = env') (h : Q (.lst xs) env') : dVarF K i env Q := ⟨v, xs, e, e2 ▸ h⟩
theorem dVarFD_s {v : V} {xs : List (Key × D)} (e : env[i]? = some (.ow v (dctA K nf xs))) (e2 : env.set i (.fz (.dct xs)) = env') (h : Q (.dct xs) env') : dVarFD K i env Q := ⟨v, xs, e, e2 ▸ h⟩
theorem sSetD0_s {env' : Addr → EV nf} (hl : Nat.blt i env.length = true) (e : ∀ p, env.set i (.ow (.ref p) (dctA K nf [])) = env' p) (h : ∀ p, De.nx (env' p)) : sSetD0 K i De env := ⟨Nat.blt_eq.mp hl, fun p => by rw [e p]; exact h p⟩
theorem sSetDD_s (h : ra env fun ds env1 => ∃ kds, ds = [.dct kds] ∧ i < env1.length ∧ ∀ p, De.nx (env1.set i (.ow (.ref p) (dctA K nf kds)))) : sSetDD K i ra De env := h
theorem setDD_s {kds : List (Key × D)} {env' : Addr → EV nf} (hl : Nat.blt i env.length = true) (e : ∀ p, env.set i (.ow (.ref p) (dctA K nf kds)) = env' p) (h : ∀ p, De.nx (env' p)) : ∃ kds', [D.dct kds] = [.dct kds'] ∧ i < env.length ∧ ∀ p, De.nx (env.set i (.ow (.ref p) (dctA K nf kds'))) := ⟨kds, rfl, Nat.blt_eq.mp hl, fun p => by rw [e p]; exact h p⟩
def DPutK2 (K : PySem.W.Frag) (i : Nat) (d : D) (De : EndsD nf) : D → EV nf → Prop := fun y env2 => ∃ v kds k, env2[i]? = some (.ow v (dctA K nf kds)) ∧ keyOf y = some k ∧ kds.length < 1000000 ∧ De.nx (env2.set i (.ow v (dctA K nf (putD kds k d))))
def DPutK (K : PySem.W.Frag) (i : Nat) (db : DT nf) (De : EndsD nf) : D → EV nf → Prop := fun d env1 => (∃ v kds, env1[i]? = some (.ow v (dctA K nf kds))) ∧ db env1 (DPutK2 K i d De)
theorem sDPutV_s {dv : DT nf} (h : dv env (DPutK K i db De)) : sDPutV K i db dv De env := h
theorem dPutK_s {v : V} {kds : List (Key × D)} (e : env[i]? = some (.ow v (dctA K nf kds))) (h : db env (DPutK2 K i d De)) : DPutK K i db De d env := ⟨⟨v, kds, e⟩, h⟩
theorem dPutK2_s {v : V} {kds : List (Key × D)} {k : Key} (e : env[i]? = some (.ow v (dctA K nf kds))) (ek : keyOf y = some k) (hl : kds.length < 1000000) (e2 : env.set i (.ow v (dctA K nf (putD kds k d))) = env') (h : De.nx env') : DPutK2 K i d De y env := ⟨v, kds, k, e, ek, hl, e2 ▸ h⟩
/-! expressions -/
theorem dVar_s (e : env[i]? = some (.fz d)) (h : Q d env) : dVar i env Q := ⟨d, e, h⟩
theorem dC_s (h : Q d env) : dC d env Q := h
def BvK (QB : Bool → EV nf → Prop) : D → EV nf → Prop := fun x env1 => ∃ b, x = .bl b ∧ QB b env1
theorem dBv_s (h : da env (BvK QB)) : dBv da env QB := h
theorem bvK_s {b : Bool} (h : QB b env) : BvK QB (.bl b) env := ⟨b, rfl, h⟩
theorem dNot_s (h : ta env fun c env1 => QB (!c) env1) : dNot ta env QB := h
theorem dAnd_s (h : ta env fun c env1 => if c = true then tb env1 QB else QB false env1) : dAnd ta tb env QB := h
theorem dOr_s (h : ta env fun c env1 => if c = true then QB true env1 else tb env1 QB) : dOr ta tb env QB := h
theorem dYes_s (h : QB true env) : dYes env QB := h
def AndVK (db : DT nf) (Q : D → EV nf → Prop) : D → EV nf → Prop := fun x env1 => ∃ c, x = .bl c ∧ if c = true then db env1 Q else Q (.bl false) env1
def OrVK (db : DT nf) (Q : D → EV nf → Prop) : D → EV nf → Prop := fun x env1 => ∃ c, x = .bl c ∧ if c = true then Q (.bl true) env1 else db env1 Q
def NotVK (Q : D → EV nf → Prop) : D → EV nf → Prop := fun x env1 => ∃ c, x = .bl c ∧ Q (.bl (!c)) env1
theorem dAndV_s (h : da env (AndVK db Q)) : dAndV da db env Q := h
theorem dOrV_s (h : da env (OrVK db Q)) : dOrV da db env Q := h
theorem dNotV_s (h : da env (NotVK Q)) : dNotV da env Q := h
theorem andVK_s {c : Bool} (h : if c = true then db env Q else Q (.bl false) env) : AndVK db Q (.bl c) env := ⟨c, rfl, h⟩
theorem orVK_s {c : Bool} (h : if c = true then Q (.bl true) env else db env Q) : OrVK db Q (.bl c) env := ⟨c, rfl, h⟩
theorem notVK_s {c : Bool} (h : Q (.bl (!c)) env) : NotVK Q (.bl c) env := ⟨c, rfl, h⟩
theorem dIf_s (h : tc env fun c env1 => if c = true then da env1 Q else db env1 Q) : dIf tc da db env Q := h
theorem dIsN_s (h : da env fun x env1 => Q (.bl (isNon x)) env1) : dIsN da env Q := h
theorem aNil_s (h : QA [] env) : aNil env QA := h
theorem aCons_s (h : da env fun x env1 => ra env1 fun xs env2 => QA (x :: xs) env2) : aCons da ra env QA := h
theorem dTup_s (h : ra env fun xs env1 => xs.length ≤ 1000000 ∧ Q (.tup xs) env1) : dTup ra env Q := h
theorem dLst_s (h : ra env fun xs env1 => xs.length ≤ 1000000 ∧ Q (.lst xs) env1) : dLst ra env Q := h
theorem lenQ_s {xs : List D} {A : Prop} (hl : Nat.ble xs.length 1000000 = true) (h : A) : xs.length ≤ 1000000 ∧ A := ⟨Nat.le_of_ble_eq_true hl, h⟩
theorem dD0_s (h : Q (.dct []) env) : dD0 env Q := h
/-! operations -/
def OpK (f : D → D → D → Prop) (Q : D → EV nf → Prop) (x y : D) : EV nf → Prop := fun env2 => ∃ z, f x y z ∧ Q z env2
theorem dOp_s {f : D → D → D → Prop} (h : da env fun x env1 => db env1 fun y env2 => OpK f Q x y env2) : dOp f da db env Q := h
theorem opK_s {f : D → D → D → Prop} (e : f x y z) (h : Q z env) : OpK f Q x y env := ⟨z, e, h⟩
theorem dAdd_s (h : dOp (fI0 fun i j => .int (i + j)) da db env Q) : dAdd da db env Q := h
theorem dSub_s (h : dOp (fI0 fun i j => .int (i - j)) da db env Q) : dSub da db env Q := h
theorem dMul_s (h : dOp (fI CMul fun i j => .int (i * j)) da db env Q) : dMul da db env Q := h
theorem dMod_s (h : dOp (fI (fun _ j => 0 < j) fun i j => .int (i % j)) da db env Q) : dMod da db env Q := h
theorem dDiv_s (h : dOp (fI CDivW fun i j => .int (i / j)) da db env Q) : dDiv da db env Q := h
theorem dPow_s (h : dOp (fI CPow fun i j => .int (i ^ j.toNat)) da db env Q) : dPow da db env Q := h
theorem dCmp_s {g : Int → Int → Bool} (h : dOp (fI0 fun i j => .bl (g i j)) da db env Q) : dCmp g da db env Q := h
theorem opI0_s {g : Int → Int → D} {i j : Int} (h : Q (g i j) env) : OpK (fI0 g) Q (.int i) (.int j) env := ⟨_, ⟨i, j, rfl, rfl, rfl⟩, h⟩
theorem opI_s {C : Int → Int → Prop} {g : Int → Int → D} {i j : Int} (c : C i j) (h : Q (g i j) env) : OpK (fI C g) Q (.int i) (.int j) env := ⟨_, ⟨i, j, rfl, rfl, c, rfl⟩, h⟩
theorem dEqG_s {neg : Bool} (h : dOp (eqQ neg) da db env Q) : dEqG neg da db env Q := h
theorem eqF_s {b : Bool} (e : eqS x y = some b) (h : Q (.bl b) env) : OpK (eqQ false) Q x y env := ⟨_, .inl ⟨b, e, rfl⟩, h⟩
theorem eqT_s {b : Bool} (e : eqS x y = some b) (h : Q (.bl (!b)) env) : OpK (eqQ true) Q x y env := ⟨_, .inl ⟨b, e, rfl⟩, h⟩
theorem eqDF_s {p q : PyData} (e1 : pyOf x = some p) (e2 : pyOf y = some q) (s1 : SeqAt.shaped p = true) (s2 : SeqAt.shaped q = true) (h : Q (.bl (PyData.eqv p q)) env) : OpK (eqQ false) Q x y env := ⟨_, .inr (.inl ⟨p, q, e1, e2, s1, s2, rfl⟩), h⟩
theorem eqDT_s {p q : PyData} (e1 : pyOf x = some p) (e2 : pyOf y = some q) (s1 : SeqAt.shaped p = true) (s2 : SeqAt.shaped q = true) (h : Q (.bl (!PyData.eqv p q)) env) : OpK (eqQ true) Q x y env := ⟨_, .inr (.inl ⟨p, q, e1, e2, s1, s2, rfl⟩), h⟩
theorem eqDctF_s {ks ls : List (Key × D)} (s : sameDct ks ls) (h : Q (.bl true) env) : OpK (eqQ false) Q (.dct ks) (.dct ls) env := ⟨_, .inr (.inr ⟨ks, ls, rfl, rfl, s, rfl⟩), h⟩
def FK (g : D → D → Option D) (Q : D → EV nf → Prop) (x y : D) : EV nf → Prop := fun env2 => ∃ z, g x y = some z ∧ Q z env2
theorem dF_s {g : D → D → Option D} (h : da env fun x env1 => db env1 fun y env2 => FK g Q x y env2) : dF g da db env Q := h
theorem fK_s {g : D → D → Option D} (e : g x y = some z) (h : Q z env) : FK g Q x y env := ⟨z, e, h⟩
theorem addI_s {i j : Int} (h : Q (.int (i + j)) env) : FK addD Q (.int i) (.int j) env := ⟨_, rfl, h⟩
theorem addS_s {s t : Str} (hl : s.length + t.length ≤ 1000000) (h : Q (.str (s ++ t)) env) : FK addD Q (.str s) (.str t) env := ⟨_, if_pos hl, h⟩
theorem addL_s {s t : List D} (hl : s.length + t.length ≤ 1000000) (h : Q (.lst (s ++ t)) env) : FK addD Q (.lst s) (.lst t) env := ⟨_, if_pos hl, h⟩
theorem ixL_s {xs : List D} {k : Int} (e : atI xs k = some z) (h : Q z env) : FK ixD Q (.lst xs) (.int k) env := ⟨z, e, h⟩
theorem ixT_s {xs : List D} {k : Int} (e : atI xs k = some z) (h : Q z env) : FK ixD Q (.tup xs) (.int k) env := ⟨z, e, h⟩
theorem ixS_s {s : Str} {k : Int} {c : Nat} (hl : s.length ≤ 1000000) (e : atI s.cps.toList k = some c) (h : Q (.str ⟨#[c]⟩) env) : FK ixD Q (.str s) (.int k) env := ⟨_, by show (if s.length ≤ 1000000 then (atI s.cps.toList k).map _ else none) = _; rw [if_pos hl, e]; rfl, h⟩
theorem ixDct_s {kds : List (Key × D)} {k : Key} (ek : keyOf y = some k) (e : valD kds k = some z) (h : Q z env) : FK ixD Q (.dct kds) y env := ⟨z, by show (keyOf y).bind (valD kds) = _; rw [ek]; exact e, h⟩
theorem in_s {neg b : Bool} (e : inD x y = some b) (h : Q (.bl (if neg then !b else b)) env) : FK (inF neg) Q x y env := ⟨_, by unfold inF; rw [e]; rfl, h⟩
theorem inS_s {c : Nat} {s : Str} (h : Q (.bl (decide (c ∈ s.cps.toList))) env) : FK (inF false) Q (.str ⟨#[c]⟩) (.str s) env := ⟨_, rfl, h⟩
theorem ninL_s {xs : List D} {b : Bool} (e : inD x (.lst xs) = some b) (h : Q (.bl (!b)) env) : FK ninF Q x (.lst xs) env := ⟨_, by show (inD x (.lst xs)).map _ = _; rw [e]; rfl, h⟩
theorem ninT_s {xs : List D} {b : Bool} (e : inD x (.tup xs) = some b) (h : Q (.bl (!b)) env) : FK ninF Q x (.tup xs) env := ⟨_, by show (inD x (.tup xs)).map _ = _; rw [e]; rfl, h⟩
def ChK2 (g' : Int → Int → Bool) (j : Int) (Q : D → EV nf → Prop) : D → EV nf → Prop := fun z env3 => ∃ k, z = .int k ∧ Q (.bl (g' j k)) env3
def ChK (g g' : Int → Int → Bool) (dc : DT nf) (Q : D → EV nf → Prop) (x y : D) : EV nf → Prop := fun env2 => ∃ i j, x = .int i ∧ y = .int j ∧ if g i j = true then dc env2 (ChK2 g' j Q) else Q (.bl false) env2
theorem dChain_s {g g' : Int → Int → Bool} (h : da env fun x env1 => db env1 fun y env2 => ChK g g' dc Q x y env2) : dChain g g' da db dc env Q := h
theorem chK_s {g g' : Int → Int → Bool} {i j : Int} (h : if g i j = true then dc env (ChK2 g' j Q) else Q (.bl false) env) : ChK g g' dc Q (.int i) (.int j) env := ⟨i, j, rfl, rfl, h⟩
theorem chK2_s {g' : Int → Int → Bool} {j k : Int} (h : Q (.bl (g' j k)) env) : ChK2 g' j Q (.int k) env := ⟨k, rfl, h⟩
/-! built-ins -/
def CbK (f : List D → D → Prop) (Q : D → EV nf → Prop) : List D → EV nf → Prop := fun ds env1 => ∃ d, f ds d ∧ Q d env1
theorem dCB_s {f : List D → D → Prop} (h : ra env (CbK f Q)) : dCB f ra env Q := h
theorem cbK_s {f : List D → D → Prop} {ds : List D} (e : f ds d) (h : Q d env) : CbK f Q ds env := ⟨d, e, h⟩
theorem cbInt_s {i : Int} (h : Q (.int i) env) : CbK fInt Q [.int i] env := ⟨_, .inl ⟨i, rfl, rfl⟩, h⟩
theorem cbIntB_s {b : Bool} (h : Q (.int (if b then 1 else 0)) env) : CbK fInt Q [.bl b] env := ⟨_, .inr ⟨b, rfl, rfl⟩, h⟩
theorem cbAbs_s {i : Int} (h : Q (.int (if i < 0 then -i else i)) env) : CbK fAbs Q [.int i] env := ⟨_, ⟨i, rfl, rfl⟩, h⟩
theorem cbLenL_s {xs : List D} (h : Q (.int xs.length) env) : CbK fLenG Q [.lst xs] env := ⟨_, ⟨_, _, rfl, rfl, rfl⟩, h⟩
theorem cbLenT_s {xs : List D} (h : Q (.int xs.length) env) : CbK fLenG Q [.tup xs] env := ⟨_, ⟨_, _, rfl, rfl, rfl⟩, h⟩
theorem cbLenD_s {xs : List (Key × D)} (h : Q (.int xs.length) env) : CbK fLenG Q [.dct xs] env := ⟨_, ⟨_, _, rfl, rfl, rfl⟩, h⟩
theorem cbLenS_s {s : Str} (hl : s.length ≤ 1000000) (h : Q (.int s.length) env) : CbK fLenG Q [.str s] env := ⟨_, ⟨_, _, rfl, if_pos hl, rfl⟩, h⟩
theorem cbList_s {xs : List D} (h : Q (.lst xs) env) : CbK fList Q [.lst xs] env := ⟨_, ⟨xs, .inl rfl, rfl⟩, h⟩
theorem cbListT_s {xs : List D} (h : Q (.lst xs) env) : CbK fList Q [.tup xs] env := ⟨_, ⟨xs, .inr rfl, rfl⟩, h⟩
theorem cbTuple_s {xs : List D} (h : Q (.tup xs) env) : CbK fTuple Q [.lst xs] env := ⟨_, ⟨xs, .inl rfl, rfl⟩, h⟩
theorem cbTupleT_s {xs : List D} (h : Q (.tup xs) env) : CbK fTuple Q [.tup xs] env := ⟨_, ⟨xs, .inr rfl, rfl⟩, h⟩
theorem cbDict_s {kds : List (Key × D)} (h : Q (.dct kds) env) : CbK fDict Q [.dct kds] env := ⟨_, ⟨kds, rfl, rfl⟩, h⟩
theorem cbListD_s {kds : List (Key × D)} (h : Q (.lst (kds.map fun kd => kD kd.1)) env) : CbK fListD Q [.dct kds] env := ⟨_, ⟨kds, rfl, rfl⟩, h⟩
theorem cbAll_s {bs : List Bool} (h : Q (.bl (bs.all id)) env) : CbK fAll Q [.lst (bs.map .bl)] env := ⟨_, ⟨bs, rfl, rfl⟩, h⟩
theorem cbStrI_s {k : Int} (hl : k.natAbs.log2 < 1920) (h : Q (.str (toString k)) env) : CbK fStrI Q [.int k] env := ⟨_, ⟨k, rfl, hl, rfl⟩, h⟩
theorem isiStr_s {s : Str} {T : String} {b : Bool} (e : kitB "str" T = some b) (h : Q (.bl b) env) : CbK (fIsi K) Q [.str s, .ty T] env := ⟨_, isi_str.mpr ⟨b, e, rfl⟩, h⟩
theorem isiInt_s {s : Int} {T : String} {b : Bool} (e : kitB "int" T = some b) (h : Q (.bl b) env) : CbK (fIsi K) Q [.int s, .ty T] env := ⟨_, isi_int.mpr ⟨b, e, rfl⟩, h⟩
theorem isiDct_s {s : List (Key × D)} {T : String} {b : Bool} (e : kitB "dict" T = some b) (h : Q (.bl b) env) : CbK (fIsi K) Q [.dct s, .ty T] env := ⟨_, isi_dct.mpr ⟨b, e, rfl⟩, h⟩
theorem isiOwn_s {C : Addr} {fs : List (Str × D)} (c : IsiC K C) (h : Q (.bl true) env) : CbK (fIsi K) Q [.obj C fs, .cls C] env := ⟨_, isi_own c rfl, h⟩
theorem isiDctO_s {C : Addr} {s : List (Key × D)} (c : PySem.W.kitOne K (.type "dict") (.ref C) = some false) (h : Q (.bl false) env) : CbK (fIsi K) Q [.dct s, .cls C] env := ⟨_, isi_dctO c rfl, h⟩
theorem dSortS_s (h : ra env fun ds env1 => ∃ ss : List Str, ds = [.lst (ss.map .str)] ∧ ss.length < 64 ∧ ∀ ys : List Str, ys.Perm ss → PyProof.Rows.sortedS ys = true → Q (.lst (ys.map .str)) env1) : dSortS ra env Q := h
theorem sortS_s {xs : List D} {ss : List Str} (e : xs = ss.map .str) (hl : ss.length < 64) (h : ∀ ys : List Str, ys.Perm ss → PyProof.Rows.sortedS ys = true → Q (.lst (ys.map .str)) env) : ∃ ss : List Str, [D.lst xs] = [.lst (ss.map .str)] ∧ ss.length < 64 ∧ ∀ ys : List Str, ys.Perm ss → PyProof.Rows.sortedS ys = true → Q (.lst (ys.map .str)) env := ⟨ss, by rw [e], hl, h⟩
def ItemsK (Q : D → EV nf → Prop) : D → EV nf → Prop := fun x env1 => ∃ kds, x = .dct kds ∧ Q (.lst (kds.map fun p => .tup [kD p.1, p.2])) env1
theorem dItems_s (h : da env (ItemsK Q)) : dItems da env Q := h
theorem itemsK_s {kds : List (Key × D)} (h : Q (.lst (kds.map fun p => .tup [kD p.1, p.2])) env) : ItemsK Q (.dct kds) env := ⟨kds, rfl, h⟩
def DS2K2 (k1 : List (Key × D)) (Q : D → EV nf → Prop) : D → EV nf → Prop := fun y env2 => ∃ k2, y = .dct k2 ∧ k1.length + k2.length ≤ 1000000 ∧ Q (.dct (mergeD (mergeD [] k1) k2)) env2
def DS2K (db : DT nf) (Q : D → EV nf → Prop) : D → EV nf → Prop := fun x env1 => ∃ k1, x = .dct k1 ∧ db env1 (DS2K2 k1 Q)
theorem dDS2_s (h : da env (DS2K db Q)) : dDS2 da db env Q := h
theorem dS2K_s {k1 : List (Key × D)} (h : db env (DS2K2 k1 Q)) : DS2K db Q (.dct k1) env := ⟨k1, rfl, h⟩
theorem dS2K2_s {k1 k2 : List (Key × D)} (hl : k1.length + k2.length ≤ 1000000) (h : Q (.dct (mergeD (mergeD [] k1) k2)) env) : DS2K2 k1 Q (.dct k2) env := ⟨k2, rfl, hl, h⟩
/-! texts -/
def SplK2 (s : Str) (Q : D → EV nf → Prop) : D → EV nf → Prop := fun y env2 => ∃ b, y = .str b ∧ (b.length == 0) = false ∧ s.length + 2 ≤ 1000000 ∧ Q (.lst ((Txt.split s b).map .str)) env2
def SplK (db : DT nf) (Q : D → EV nf → Prop) : D → EV nf → Prop := fun x env1 => ∃ a, x = .str a ∧ db env1 (SplK2 a Q)
theorem dSplit_s (h : da env (SplK db Q)) : dSplit da db env Q := h
theorem splK_s {s : Str} (h : db env (SplK2 s Q)) : SplK db Q (.str s) env := ⟨s, rfl, h⟩
theorem splK2_s {s b : Str} (h1 : (b.length == 0) = false) (h2 : s.length + 2 ≤ 1000000) (h : Q (.lst ((Txt.split s b).map .str)) env) : SplK2 s Q (.str b) env := ⟨b, rfl, h1, h2, h⟩
def JoinK2 (s : Str) (Q : D → EV nf → Prop) : D → EV nf → Prop := fun y env2 => ∃ ys : List Str, (y = .lst (ys.map .str) ∨ y = .tup (ys.map .str)) ∧ (ys.map (·.length)).sum + ys.length * s.length ≤ 1000000 ∧ Q (.str (Txt.join s ys)) env2
def JoinK (db : DT nf) (Q : D → EV nf → Prop) : D → EV nf → Prop := fun x env1 => ∃ a, x = .str a ∧ db env1 (JoinK2 a Q)
theorem dJoin_s (h : da env (JoinK db Q)) : dJoin da db env Q := h
theorem joinK_s {s : Str} (h : db env (JoinK2 s Q)) : JoinK db Q (.str s) env := ⟨s, rfl, h⟩
theorem joinK2_s {s : Str} {xs : List D} {ys : List Str} (e : xs = ys.map .str) (hl : (ys.map (·.length)).sum + ys.length * s.length ≤ 1000000) (h : Q (.str (Txt.join s ys)) env) : JoinK2 s Q (.lst xs) env := ⟨ys, .inl (by rw [e]), hl, h⟩
def OK' (Q : Option Int → EV nf → Prop) : D → EV nf → Prop := fun x env1 => ∃ i, x = .int i ∧ Q (some i) env1
theorem oNone_s {Q : Option Int → EV nf → Prop} (h : Q none env) : oNone env Q := h
theorem oSome_s {Q : Option Int → EV nf → Prop} (h : da env (OK' Q)) : oSome da env Q := h
theorem ok'_s {Q : Option Int → EV nf → Prop} {i : Int} (h : Q (some i) env) : OK' Q (.int i) env := ⟨i, rfl, h⟩
def SlSK (x : D) (l u : Option Int) (Q : D → EV nf → Prop) : EV nf → Prop := fun env3 => ∃ z, x = .str z ∧ z.length ≤ 1000000 ∧ Q (.str (cutS z l u)) env3
theorem dSlS_s {lo hi : DO nf} (h : da env fun x env1 => lo env1 fun l env2 => hi env2 fun u env3 => SlSK x l u Q env3) : dSlS da lo hi env Q := h
theorem slSK_s {s : Str} {l u : Option Int} (hl : s.length ≤ 1000000) (h : Q (.str (cutS s l u)) env) : SlSK (.str s) l u Q env := ⟨s, rfl, hl, h⟩
def SlLK (x : D) (l u : Option Int) (Q : D → EV nf → Prop) : EV nf → Prop := fun env3 => ∃ xs, x = .lst xs ∧ Q (.lst ((xs.drop (HT.sIx xs.length 0 l)).take (HT.sIx xs.length xs.length u - HT.sIx xs.length 0 l))) env3
theorem dSlL_s {lo hi : DO nf} (h : da env fun x env1 => lo env1 fun l env2 => hi env2 fun u env3 => SlLK x l u Q env3) : dSlL da lo hi env Q := h
theorem slLK_s {xs : List D} {l u : Option Int} (h : Q (.lst ((xs.drop (HT.sIx xs.length 0 l)).take (HT.sIx xs.length xs.length u - HT.sIx xs.length 0 l))) env) : SlLK (.lst xs) l u Q env := ⟨xs, rfl, h⟩
/-! fields, methods, calls -/
def FldK (C : Addr) (m : Str) (Q : D → EV nf → Prop) : D → EV nf → Prop := fun ob env1 => ∃ fds d, ob = .obj C fds ∧ fds.lookup m = some d ∧ Q d env1
theorem dFld_s {C : Addr} {m : Str} (h : da env (FldK C m Q)) : dFld C m da env Q := h
theorem fldK_s {C : Addr} {m : Str} {fds : List (Str × D)} (e : fds.lookup m = some d) (h : Q d env) : FldK C m Q (.obj C fds) env := ⟨fds, d, rfl, e, h⟩
theorem mNil_s (h : QM [] env) : mNil env QM := h
theorem mVal_s (h : da env fun d env1 => rm env1 fun ads env2 => QM (.v d :: ads) env2) : mVal da rm env QM := h
theorem mSlot_s {s : SD nf} (e : env[i]? = some s) (hs : isSet s) (h : rm env fun ads env2 => QM (.o i :: ads) env2) : mSlot i rm env QM := ⟨⟨s, e, hs⟩, h⟩
def ndB : List Nat → Bool
  | [] => true
  | x :: xs => !(xs.elem x) && ndB xs
theorem nd_of : ∀ {l : List Nat}, ndB l = true → l.Nodup
  | [], _ => List.nodup_nil
  | x :: xs, h => by
    simp only [ndB, Bool.and_eq_true, Bool.not_eq_true', List.elem_eq_mem, decide_eq_false_iff_not] at h
    exact List.nodup_cons.mpr ⟨h.1, nd_of h.2⟩
def PutK (env : EV nf) (ads : List AD) (Q : D → EV nf → Prop) : D → List (SD nf) → Prop := fun d as' => Q d (putBack env ads as')
theorem putK_s {ads : List AD} {as' : List (SD nf)} (e : putBack env ads as' = env') (h : Q d env') : PutK env ads Q d as' := by show Q d (putBack env ads as'); rw [e]; exact h
def CallK (n : Nat) (S : SpD nf) (dds : List D) (Q : D → EV nf → Prop) : List AD → EV nf → Prop := fun ads env1 => ads.length + dds.length = n ∧ (slotsOf (ads ++ dds.map AD.v)).Nodup ∧ (∀ i ∈ slotsOf (ads ++ dds.map AD.v), i < env1.length) ∧
  S ((ads ++ dds.map AD.v).map (resolve env1)) fun d as' => Q d (putBack env1 (ads ++ dds.map AD.v) as')
theorem dCall_s {S : SpD nf} {dds : List D} (h : rm env (CallK n S dds Q)) : dCall n S dds rm env Q := h
theorem ofAll {l : List Nat} {n : Nat} (h : l.all (fun i => Nat.blt i n) = true) : ∀ i ∈ l, i < n := fun i m => Nat.blt_eq.mp (List.all_eq_true.mp h i m)
theorem callK_s {S : SpD nf} {dds : List D} {ads ads' : List AD} {as : List (SD nf)} (h1 : ads.length + dds.length = n) (e1 : ads ++ dds.map AD.v = ads') (h2 : ndB (slotsOf ads') = true) (h3 : (slotsOf ads').all (fun i => Nat.blt i env.length) = true)
    (e2 : ads'.map (resolve env) = as) (h : S as (PutK env ads' Q)) : CallK n S dds Q ads env := by subst e1; subst e2; exact ⟨h1, nd_of h2, ofAll h3, h⟩
def MethK2 (n : Nat) (S : SpD nf) (dds : List D) (ob : D) (Q : D → EV nf → Prop) : List AD → EV nf → Prop := fun ads env1 => ads.length + dds.length + 1 = n ∧ (slotsOf (ads ++ dds.map AD.v)).Nodup ∧ (∀ i ∈ slotsOf (ads ++ dds.map AD.v), i < env1.length) ∧
  S ((AD.v ob :: (ads ++ dds.map AD.v)).map (resolve env1)) fun d as' => Q d (putBack env1 (AD.v ob :: (ads ++ dds.map AD.v)) as')
def MethK (n : Nat) (C : Addr) (m : Str) (S : SpD nf) (dds : List D) (r : DM nf) (Q : D → EV nf → Prop) : D → EV nf → Prop := fun ob env0 => ∃ fds, ob = .obj C fds ∧ fds.lookup m = none ∧ r env0 (MethK2 n S dds ob Q)
theorem dMeth_s {C : Addr} {m : Str} {S : SpD nf} {dds : List D} (h : da env (MethK n C m S dds rm Q)) : dMeth n C m S dds da rm env Q := h
theorem methK_s {C : Addr} {m : Str} {S : SpD nf} {dds : List D} {fds : List (Str × D)} (e : fds.lookup m = none) (h : rm env (MethK2 n S dds (.obj C fds) Q)) : MethK n C m S dds rm Q (.obj C fds) env := ⟨fds, rfl, e, h⟩
theorem methK2_s {S : SpD nf} {dds : List D} {ads ads' : List AD} {ob : D} {as : List (SD nf)} (h1 : ads.length + dds.length + 1 = n) (e1 : ads ++ dds.map AD.v = ads') (h2 : ndB (slotsOf ads') = true) (h3 : (slotsOf ads').all (fun i => Nat.blt i env.length) = true)
    (e2 : (AD.v ob :: ads').map (resolve env) = as) (h : S as (PutK env (AD.v ob :: ads') Q)) : MethK2 n S dds ob Q ads env := by subst e1; subst e2; exact ⟨h1, nd_of h2, ofAll h3, h⟩
def MkK (y : Addr) (C : Addr) (env : EV nf) (ads : List AD) (Q : D → EV nf → Prop) : D → List (SD nf) → Prop := fun d as' => d = .non ∧ ∃ fds rest, as' = .fr (.ref y) (.obj C fds) :: rest ∧ Q (.obj C fds) (putBack env ads rest)
def MakeK (K : PySem.W.Frag) (n : Nat) (C : Addr) (S : SpD nf) (dds : List D) (Q : D → EV nf → Prop) : List AD → EV nf → Prop := fun ads env1 => ads.length + dds.length + 1 = n ∧ 0 < nf C ∧ (slotsOf (ads ++ dds.map AD.v)).Nodup ∧ (∀ i ∈ slotsOf (ads ++ dds.map AD.v), i < env1.length) ∧
  ∀ y, S (.ow (.ref y) (insA K nf C []) :: (ads ++ dds.map AD.v).map (resolve env1)) (MkK y C env1 (ads ++ dds.map AD.v) Q)
theorem dMake_s {C : Addr} {S : SpD nf} {dds : List D} (h : rm env (MakeK K n C S dds Q)) : dMake K n C S dds rm env Q := h
theorem makeK_s {C : Addr} {S : SpD nf} {dds : List D} {ads ads' : List AD} {as : List (SD nf)} (h1 : ads.length + dds.length + 1 = n) (e1 : ads ++ dds.map AD.v = ads') (h0 : 0 < nf C) (h2 : ndB (slotsOf ads') = true) (h3 : (slotsOf ads').all (fun i => Nat.blt i env.length) = true)
    (e2 : ads'.map (resolve env) = as) (h : ∀ y, S (.ow (.ref y) (insA K nf C []) :: as) (MkK y C env ads' Q)) : MakeK K n C S dds Q ads env := by subst e1; subst e2; exact ⟨h1, h0, nd_of h2, ofAll h3, h⟩
theorem mkK_s {C y : Addr} {ads : List AD} {fds : List (Str × D)} {rest : List (SD nf)} (e : putBack env ads rest = env') (h : Q (.obj C fds) env') : MkK y C env ads Q .non (.fr (.ref y) (.obj C fds) :: rest) := ⟨rfl, fds, rest, rfl, by rw [e]; exact h⟩
def OwnK (rev : Bool) (P : D → D → Prop) (S : SpD nf) (Q : D → EV nf → Prop) (x y : D) : EV nf → Prop := fun env2 => P x y ∧ S (if rev then [.fz y, .fz x] else [.fz x, .fz y]) fun d _ => Q d env2
theorem dOwnOp_s {rev : Bool} {P : D → D → Prop} {S : SpD nf} (h : da env fun x env1 => db env1 fun y env2 => OwnK rev P S Q x y env2) : dOwnOp rev P S da db env Q := h
theorem ownF_s {P : D → D → Prop} {S : SpD nf} (p : P x y) (h : S [.fz x, .fz y] fun d _ => Q d env) : OwnK false P S Q x y env := ⟨p, h⟩
theorem ownT_s {P : D → D → Prop} {S : SpD nf} (p : P x y) (h : S [.fz y, .fz x] fun d _ => Q d env) : OwnK true P S Q x y env := ⟨p, h⟩
/-! the state of the draws -/
theorem dStI_s {v : V} {gr : List Int} {x n sd z : Int} {j : Int} (e : env[i]? = some (.ow v (stA nf gr x n sd))) (ez : stF x n sd j = some z) (h : Q (.int z) env) : dStI i j env Q := ⟨v, gr, x, n, sd, z, e, ez, h⟩
theorem dStN_s {v : V} {gr : List Int} {x n sd : Int} (e : env[i]? = some (.ow v (stA nf gr x n sd))) (h : QB (!gr.isEmpty) env) : dStN i env QB := ⟨v, gr, x, n, sd, e, h⟩
def StSK (i : Nat) (j : Int) (De : EndsD nf) : D → EV nf → Prop := fun d env1 => ∃ z v gr x n sd, d = .int z ∧ env1[i]? = some (.ow v (stA nf gr x n sd)) ∧ 1 ≤ j ∧ j ≤ 3 ∧ De.nx (env1.set i (.ow v (stP gr x n sd j z)))
theorem sStS_s {j : Int} (h : da env (StSK i j De)) : sStS i j da De env := h
theorem stSK_s {v : V} {gr : List Int} {x n sd z j : Int} {A : OA nf} (e : env[i]? = some (.ow v (stA nf gr x n sd))) (h1 : decide (1 ≤ j ∧ j ≤ 3) = true) (ea : stP gr x n sd j z = A) (e2 : env.set i (.ow v A) = env') (h : De.nx env') : StSK i j De (.int z) env :=
  ⟨z, v, gr, x, n, sd, rfl, e, (of_decide_eq_true h1).1, (of_decide_eq_true h1).2, by rw [ea, e2]; exact h⟩
def StGK (i : Nat) (j : Int) (v : V) (y : Int) (De : EndsD nf) : D → EV nf → Prop := fun d env1 => ∃ z gr1 x1 n1 sd1, d = .int z ∧ env1[i]? = some (.ow v (stA nf gr1 x1 n1 sd1)) ∧ De.nx (env1.set i (.ow v (stP gr1 x1 n1 sd1 j (y + z))))
theorem sStG_s {v : V} {gr : List Int} {x n sd y j : Int} (e : env[i]? = some (.ow v (stA nf gr x n sd))) (ey : stF x n sd j = some y) (h1 : decide (1 ≤ j ∧ j ≤ 3) = true) (h : da env (StGK i j v y De)) : sStG i j da De env := ⟨v, gr, x, n, sd, y, e, ey, (of_decide_eq_true h1).1, (of_decide_eq_true h1).2, h⟩
theorem stGK_s {v : V} {gr : List Int} {x n sd y z j : Int} {A : OA nf} (e : env[i]? = some (.ow v (stA nf gr x n sd))) (ea : stP gr x n sd j (y + z) = A) (e2 : env.set i (.ow v A) = env') (h : De.nx env') : StGK i j v y De (.int z) env := ⟨z, gr, x, n, sd, rfl, e, by rw [ea, e2]; exact h⟩
theorem sStPop_s {v : V} {y : Int} {gr : List Int} {x n sd : Int} (e : env[i]? = some (.ow v (stA nf (y :: gr) x n sd))) (e2 : env.set i (.ow v (stA nf gr y n sd)) = env') (h : De.nx env') : sStPop i De env := ⟨v, y, gr, x, n, sd, e, by rw [e2]; exact h⟩
def RetStK (K : PySem.W.Frag) (i : Nat) (v : V) (gr : List Int) (De : EndsD nf) : List D → EV nf → Prop := fun xs env1 => ∃ x n sd, xs = [.int x, .int n, .int sd] ∧ env1[i]? = some (.ow v (lstA K nf (gr.map .int))) ∧ ∀ p, De.ro (.ref p) (stA nf gr x n sd) (env1.set i .un)
theorem sRetSt_s {v : V} {gr : List Int} (e : env[i]? = some (.ow v (lstA K nf (gr.map .int)))) (h : ra env (RetStK K i v gr De)) : sRetSt K i ra De env := ⟨v, gr, e, h⟩
theorem retStK_s {v : V} {gr : List Int} {x n sd : Int} (e : env[i]? = some (.ow v (lstA K nf (gr.map .int)))) (e2 : env.set i .un = env') (h : ∀ p, De.ro (.ref p) (stA nf gr x n sd) env') : RetStK K i v gr De [.int x, .int n, .int sd] env := ⟨x, n, sd, rfl, e, by rw [e2]; exact h⟩
theorem stP1 {gr : List Int} {x n sd z : Int} : stP gr x n sd 1 z = stA nf gr z n sd := rfl
theorem stP2 {gr : List Int} {x n sd z : Int} : stP gr x n sd 2 z = stA nf gr x z sd := rfl
theorem stP3 {gr : List Int} {x n sd z : Int} : stP gr x n sd 3 z = stA nf gr x n z := rfl
/-! owned results -/
def CallOK (n : Nat) (S : SpO nf) (dds : List D) (i : Nat) (De : EndsD nf) : List AD → EV nf → Prop := fun ads env1 => ads.length + dds.length = n ∧ (slotsOf (ads ++ dds.map AD.v)).Nodup ∧ (∀ i ∈ slotsOf (ads ++ dds.map AD.v), i < env1.length) ∧ i < env1.length ∧
  S ((ads ++ dds.map AD.v).map (resolve env1)) fun s as' => De.nx ((putBack env1 (ads ++ dds.map AD.v) as').set i s)
theorem sCallO_s {S : SpO nf} {dds : List D} (h : rm env (CallOK n S dds i De)) : sCallO n S dds rm i De env := h
def PutOK (env : EV nf) (ads : List AD) (i : Nat) (De : EndsD nf) : SD nf → List (SD nf) → Prop := fun s as' => De.nx ((putBack env ads as').set i s)
theorem putOK_s {ads : List AD} {s : SD nf} {as' : List (SD nf)} (e : (putBack env ads as').set i s = env') (h : De.nx env') : PutOK env ads i De s as' := by show De.nx ((putBack env ads as').set i s); rw [e]; exact h
theorem callOK_s {S : SpO nf} {dds : List D} {ads ads' : List AD} {as : List (SD nf)} (h1 : ads.length + dds.length = n) (e1 : ads ++ dds.map AD.v = ads') (h2 : ndB (slotsOf ads') = true) (h3 : (slotsOf ads').all (fun i => Nat.blt i env.length) = true) (h4 : Nat.blt i env.length = true)
    (e2 : ads'.map (resolve env) = as) (h : S as (PutOK env ads' i De)) : CallOK n S dds i De ads env := by subst e1; subst e2; exact ⟨h1, nd_of h2, ofAll h3, Nat.blt_eq.mp h4, h⟩
/-! an object on the way -/
def FldSK (K : PySem.W.Frag) (C : Addr) (i : Nat) (m : Str) (De : EndsD nf) : D → EV nf → Prop := fun d env1 => ∃ v fds, env1[i]? = some (.ow v (insA K nf C fds)) ∧ fds.lookup m = none ∧ fds.length < 999 ∧
  (fds.length + 1 < nf C → De.nx (env1.set i (.ow v (insA K nf C (fds ++ [(m, d)]))))) ∧ (fds.length + 1 = nf C → De.nx (env1.set i (.fr v (.obj C (fds ++ [(m, d)])))))
theorem sFldS_s {C : Addr} {m : Str} (h : da env (FldSK K C i m De)) : sFldS K C i m da De env := h
theorem fldLast_s {C : Addr} {m : Str} {v : V} {fds : List (Str × D)} (e : env[i]? = some (.ow v (insA K nf C fds))) (e0 : fds.lookup m = none) (hl : fds.length < 999) (hn : nf C = fds.length + 1) (e2 : env.set i (.fr v (.obj C (fds ++ [(m, d)]))) = env') (h : De.nx env') : FldSK K C i m De d env :=
  ⟨v, fds, e, e0, hl, fun z => by omega, fun _ => by rw [e2]; exact h⟩
theorem fldMore_s {C : Addr} {m : Str} {v : V} {fds : List (Str × D)} (e : env[i]? = some (.ow v (insA K nf C fds))) (e0 : fds.lookup m = none) (hl : fds.length < 999) (hn : fds.length + 1 < nf C) (e2 : env.set i (.ow v (insA K nf C (fds ++ [(m, d)]))) = env') (h : De.nx env') : FldSK K C i m De d env :=
  ⟨v, fds, e, e0, hl, fun _ => by rw [e2]; exact h, fun z => by omega⟩
/-! loops -/
theorem sFor_s {g : DG nf} (h : ra env fun ds env1 => dFor g b ds De env1) : sFor ra g b De env := h
theorem forNil_s {g : DG nf} (h : De.nx env) : dFor g b [] De env := h
theorem forCons_s {g : DG nf} {ds : List D} (h : g d env fun env1 => b { De with nx := dFor g b ds De, ct := dFor g b ds De, bk := De.nx } env1) : dFor g b (d :: ds) De env := h
def IlK (QA : List D → EV nf → Prop) : D → EV nf → Prop := fun d env1 => ∃ xs, lsOf d = some xs ∧ QA xs env1
theorem iL_s (h : da env (IlK QA)) : iL da env QA := h
theorem ilK_s {xs : List D} (h : QA xs env) : IlK QA (.lst xs) env := ⟨xs, rfl, h⟩
theorem ilS_s {ns : List Int} (h : QA (ns.map .int) env) : IlK QA (.scr ns) env := ⟨_, rfl, h⟩
def ItK (QA : List D → EV nf → Prop) : D → EV nf → Prop := fun d env1 => ∃ xs, d = .tup xs ∧ QA xs env1
theorem iT_s (h : da env (ItK QA)) : iT da env QA := h
theorem itK_s {xs : List D} (h : QA xs env) : ItK QA (.tup xs) env := ⟨xs, rfl, h⟩
def IsK (QA : List D → EV nf → Prop) : D → EV nf → Prop := fun d env1 => ∃ z, d = .str z ∧ QA (signsD z) env1
theorem iS_s (h : da env (IsK QA)) : iS da env QA := h
theorem isK_s {s : Str} (h : QA (signsD s) env) : IsK QA (.str s) env := ⟨s, rfl, h⟩
def IkK (QA : List D → EV nf → Prop) : D → EV nf → Prop := fun d env1 => ∃ kds, d = .dct kds ∧ QA (kds.map fun p => kD p.1) env1
theorem iK_s (h : da env (IkK QA)) : iK da env QA := h
theorem ikK_s {kds : List (Key × D)} (h : QA (kds.map fun p => kD p.1) env) : IkK QA (.dct kds) env := ⟨kds, rfl, h⟩
def IkvK (QA : List D → EV nf → Prop) : D → EV nf → Prop := fun d env1 => ∃ kds, d = .dct kds ∧ QA (kds.map fun p => .tup [kD p.1, p.2]) env1
theorem iKV_s (h : da env (IkvK QA)) : iKV da env QA := h
theorem ikvK_s {kds : List (Key × D)} (h : QA (kds.map fun p => .tup [kD p.1, p.2]) env) : IkvK QA (.dct kds) env := ⟨kds, rfl, h⟩
def Ir1K (QA : List D → EV nf → Prop) : List D → EV nf → Prop := fun ds env1 => ∃ n : Int, ds = [.int n] ∧ (-(2 ^ 62) ≤ n ∧ n < 2 ^ 62) ∧ QA (rangeD 0 n.toNat) env1
theorem iR1_s (h : ra env (Ir1K QA)) : iR1 ra env QA := h
theorem ir1K_s {n : Int} (hb : -(2 ^ 62) ≤ n ∧ n < 2 ^ 62) (h : QA (rangeD 0 n.toNat) env) : Ir1K QA [.int n] env := ⟨n, rfl, hb, h⟩
def Ir2K (QA : List D → EV nf → Prop) : List D → EV nf → Prop := fun ds env1 => ∃ a n : Int, ds = [.int a, .int n] ∧ (-(2 ^ 62) ≤ a ∧ a < 2 ^ 62 ∧ -(2 ^ 62) ≤ n ∧ n < 2 ^ 62) ∧ QA (rangeD a (n - a).toNat) env1
theorem iR2_s (h : ra env (Ir2K QA)) : iR2 ra env QA := h
theorem ir2K_s {a n : Int} (hb : -(2 ^ 62) ≤ a ∧ a < 2 ^ 62 ∧ -(2 ^ 62) ≤ n ∧ n < 2 ^ 62) (h : QA (rangeD a (n - a).toNat) env) : Ir2K QA [.int a, .int n] env := ⟨a, n, rfl, hb, h⟩
def LcK (g : DG nf) (ta : DB nf) (da : DT nf) (js : List Nat) (Q : D → EV nf → Prop) : List D → EV nf → Prop := fun ds env1 => dComp g ta da js ds [] (wipeD env1 js) fun acc env2 => Q (.lst acc) env2
def DcK (g : DG nf) (ta : DB nf) (da db : DT nf) (js : List Nat) (Q : D → EV nf → Prop) : List D → EV nf → Prop := fun ds env1 => dCompD g ta da db js ds [] (wipeD env1 js) fun acc env2 => Q (.dct acc) env2
theorem dLc_s {g : DG nf} {js : List Nat} (h : ra env (LcK g ta da js Q)) : dLc ra g ta da js env Q := h
theorem dDc_s {g : DG nf} {js : List Nat} (h : ra env (DcK g ta da db js Q)) : dDc ra g ta da db js env Q := h
theorem lcK_s {g : DG nf} {js : List Nat} {ds : List D} (e : wipeD env js = env') (h : dComp g ta da js ds [] env' fun acc env2 => Q (.lst acc) env2) : LcK g ta da js Q ds env := by subst e; exact h
theorem dcK_s {g : DG nf} {js : List Nat} {ds : List D} (e : wipeD env js = env') (h : dCompD g ta da db js ds [] env' fun acc env2 => Q (.dct acc) env2) : DcK g ta da db js Q ds env := by subst e; exact h
/-- a comprehension without a test whose element changes nothing -/
theorem lc_map {j : Nat} {de : DT nf} {Q : List D → EV nf → Prop} {env : EV nf} (f : D → D) (hj : env[j]? = some .un) {ds : List D}
    (he : ∀ x ∈ ds, ∀ R : D → EV nf → Prop, R (f x) (env.set j (.fz x)) → de (env.set j (.fz x)) R) (hl : ds.length ≤ 1000000) (q : Q (ds.map f) env) : dComp (gN j) dYes de [j] ds [] env Q :=
  lc_pure (fun _ => true) f hj (fun x _ R r => r) (fun x m _ R r => he x m R r) (by simpa using hl) (by rw [List.nil_append, List.filter_eq_self.mpr (fun _ _ => rfl)]; exact q)
theorem mem_signs {s : Str} {x : D} (h : x ∈ signsD s) : ∃ c ∈ s.cps.toList, x = .str ⟨#[c]⟩ := by
  simp only [signsD, List.mem_map] at h
  obtain ⟨c, hc, e⟩ := h
  exact ⟨c, hc, e.symm⟩
theorem signs_len {s : Str} : (signsD s).length = s.length := by simp [signsD, Str.length]
def InVK (K : PySem.W.Frag) (neg : Bool) (i : Nat) (Q : D → EV nf → Prop) : D → EV nf → Prop := fun x env1 => ∃ xs v us, lsAt K env1 i xs ∧ flatD x = some v ∧ flatDs xs = some us ∧ Q (.bl (if neg then !inV v us else inV v us)) env1
theorem dInV_s {neg : Bool} (h : da env (InVK K neg i Q)) : dInV K neg da i env Q := h
theorem inVK_s {xs : List D} {w : V} {us : List V} {v : V} {neg : Bool} (e : env[i]? = some (.ow v (lstA K nf xs))) (e1 : flatD x = some w) (e2 : flatDs xs = some us) (h : Q (.bl (if neg then !inV w us else inV w us)) env) : InVK K neg i Q x env := ⟨xs, w, us, .inr ⟨v, e⟩, e1, e2, h⟩
/-! places -/
theorem atI_of {α : Type} {xs : List α} {k : Int} (h0 : 0 ≤ k) (h : k < xs.length) : atI xs k = xs[k.toNat]? := by
  unfold atI ixN
  rw [if_pos h0, if_pos h]
  rfl
theorem atI_ex {α : Type} {xs : List α} {k : Int} (h0 : 0 ≤ k) (h : k < xs.length) : ∃ z ∈ xs, atI xs k = some z ∧ xs[k.toNat]? = some z := by
  have hk : k.toNat < xs.length := by omega
  exact ⟨xs[k.toNat], List.getElem_mem hk, by rw [atI_of h0 h]; exact List.getElem?_eq_getElem hk, List.getElem?_eq_getElem hk⟩
theorem atI_zero {α : Type} {x : α} {xs : List α} : atI (x :: xs) 0 = some x := by rw [atI_of (by omega) (by simp)]; rfl
theorem flat_strs : ∀ (ss : List Str), flatDs (ss.map D.str) = some (ss.map V.str)
  | [] => rfl
  | s :: ss => by show ((flatD (.str s)).bind fun v => (flatDs (ss.map D.str)).map fun vs => v :: vs) = _; rw [flat_strs ss]; rfl
/-! ends -/
theorem bo_nil : BackOk ([] : List (SD nf)) env := by cases env <;> trivial
theorem bo_fz {s : SD nf} {as : List (SD nf)} (h : BackOk as env) : BackOk (.fz d :: as) (s :: env) := h
theorem bo_un {s : SD nf} {as : List (SD nf)} (h : BackOk as env) : BackOk (.un :: as) (s :: env) := h
theorem bo_ow {v : V} {A A' : OA nf} {as : List (SD nf)} (h : BackOk as env) : BackOk (.ow v A :: as) (.ow v A' :: env) := ⟨.inl ⟨_, rfl⟩, h⟩
theorem bo_fr {v : V} {A : OA nf} {as : List (SD nf)} (h : BackOk as env) : BackOk (.ow v A :: as) (.fr v d :: env) := ⟨.inr ⟨_, rfl⟩, h⟩
theorem back_nil : back ([] : List (SD nf)) env = [] := by cases env <;> rfl
theorem back_fz {s : SD nf} {as : List (SD nf)} : back (.fz d :: as) (s :: env) = .fz d :: back as env := rfl
theorem back_un {s : SD nf} {as : List (SD nf)} : back (.un :: as) (s :: env) = .un :: back as env := rfl
theorem back_ow {s : SD nf} {v : V} {A : OA nf} {as : List (SD nf)} : back (.ow v A :: as) (s :: env) = s :: back as env := rfl
theorem pb_nil {as : List (SD nf)} : putBack env [] as = env := by cases as <;> rfl
theorem pb_v {s : SD nf} {r : List AD} {as : List (SD nf)} : putBack env (.v d :: r) (s :: as) = putBack env r as := rfl
theorem pb_o {s : SD nf} {r : List AD} {as : List (SD nf)} : putBack env (.o i :: r) (s :: as) = putBack (env.set i s) r as := rfl
theorem rs_v : resolve env (.v d) = .fz d := rfl
theorem rs_o : resolve env (.o i) = (env[i]?).getD .un := rfl
theorem wp_nil : wipeD env [] = env := rfl
theorem wp_cons {js : List Nat} : wipeD env (j :: js) = (wipeD env js).set j .un := rfl
theorem fnRt_s {as as' : List (SD nf)} {Qd : D → List (SD nf) → Prop} (hb : BackOk as env) (e : back as env = as') (h : Qd d as') : (fnEnds as Qd).rt d env := ⟨hb, by rw [e]; exact h⟩
theorem fnNx_s {as as' : List (SD nf)} {Qd : D → List (SD nf) → Prop} (hb : BackOk as env) (e : back as env = as') (h : Qd .non as') : (fnEnds as Qd).nx env := ⟨hb, by rw [e]; exact h⟩
theorem fnRo_s {as as' : List (SD nf)} {Qd : SD nf → List (SD nf) → Prop} {v : V} {A : OA nf} (hb : BackOk as env) (e : back as env = as') (h : Qd (.ow v A) as') : (fnEndsO as Qd).ro v A env := ⟨hb, by rw [e]; exact h⟩
theorem fnRtO_s {as as' : List (SD nf)} {Qd : SD nf → List (SD nf) → Prop} (hb : BackOk as env) (e : back as env = as') (h : Qd (.fz d) as') : (fnEndsO as Qd).rt d env := ⟨hb, by rw [e]; exact h⟩
end
end DL

/-! mathematics of dicts as lists of pairs, of sorted texts -/
namespace DL
open PySem L2
theorem nodup_len {α : Type} [DecidableEq α] : ∀ {l m : List α}, l.Nodup → (∀ x ∈ l, x ∈ m) → l.length ≤ m.length
  | [], _, _, _ => Nat.zero_le _
  | x :: l, m, nd, h => by
    have hx : x ∈ m := h x List.mem_cons_self
    have nd' := List.nodup_cons.mp nd
    have ih := nodup_len (m := m.erase x) nd'.2 fun y hy => by
      have : y ≠ x := fun e => nd'.1 (e ▸ hy)
      exact (List.mem_erase_of_ne this).mpr (h y (List.mem_cons_of_mem _ hy))
    have := List.length_erase_of_mem hx
    have hp : 0 < m.length := List.length_pos_of_mem hx
    rw [List.length_cons]
    omega
theorem valD_nil (k : Key) : valD [] k = none := rfl
theorem valD_cons (p : Key × D) (kds : List (Key × D)) (k : Key) : valD (p :: kds) k = if p.1 = k then some p.2 else valD kds k := by
  unfold valD
  rw [List.find?_cons]
  by_cases h : p.1 = k
  · simp [h]
  · simp [h]
theorem valD_mem : ∀ {kds : List (Key × D)} {k : Key} {d : D}, valD kds k = some d → (k, d) ∈ kds
  | [], _, _, h => by cases h
  | p :: kds, k, d, h => by
    rw [valD_cons] at h
    split at h
    · rename_i e; cases h; rw [← e]; exact List.mem_cons_self
    · exact List.mem_cons_of_mem _ (valD_mem h)
theorem valD_of : ∀ {kds : List (Key × D)} {k : Key} {d : D}, (kds.map (·.1)).Nodup → (k, d) ∈ kds → valD kds k = some d
  | [], _, _, _, h => by cases h
  | p :: kds, k, d, nd, h => by
    rw [List.map_cons] at nd
    have nd' := List.nodup_cons.mp nd
    rw [valD_cons]
    rcases List.mem_cons.mp h with e | m
    · subst e; simp
    · have : p.1 ≠ k := fun e => nd'.1 (e ▸ List.mem_map.mpr ⟨(k, d), m, rfl⟩)
      rw [if_neg this]
      exact valD_of nd'.2 m
theorem valD_none {kds : List (Key × D)} {k : Key} : valD kds k = none ↔ k ∉ kds.map (·.1) := by
  induction kds with
  | nil => simp [valD_nil]
  | cons p kds ih =>
    rw [valD_cons, List.map_cons, List.mem_cons]
    by_cases h : p.1 = k
    · rw [if_pos h]
      constructor
      · intro z; cases z
      · intro z; exact absurd (Or.inl h.symm) z
    · rw [if_neg h, ih]
      constructor
      · rintro z (w | w)
        · exact h w.symm
        · exact z w
      · exact fun z w => z (Or.inr w)
theorem valD_some {kds : List (Key × D)} {k : Key} (h : k ∈ kds.map (·.1)) : ∃ d, valD kds k = some d := by
  cases e : valD kds k with
  | none => exact absurd h (valD_none.mp e)
  | some d => exact ⟨d, rfl⟩
theorem putD_in {kds : List (Key × D)} {k : Key} {d : D} (h : k ∈ kds.map (·.1)) : putD kds k d = kds.map fun kv => if kv.1 = k then (kv.1, d) else kv := by
  unfold putD
  rw [if_pos]
  simp only [List.any_eq_true, decide_eq_true_eq]
  obtain ⟨p, hp, e⟩ := List.mem_map.mp h
  exact ⟨p, hp, e⟩
theorem putD_out {kds : List (Key × D)} {k : Key} {d : D} (h : k ∉ kds.map (·.1)) : putD kds k d = kds ++ [(k, d)] := by
  unfold putD
  rw [if_neg]
  simp only [List.any_eq_true, decide_eq_true_eq, not_exists, not_and]
  exact fun p hp e => h (List.mem_map.mpr ⟨p, hp, e⟩)
theorem map_put_keys (kds : List (Key × D)) (k : Key) (d : D) : (kds.map fun kv => if kv.1 = k then (kv.1, d) else kv).map (·.1) = kds.map (·.1) := by
  rw [List.map_map]
  apply List.map_congr_left
  intro p _
  simp only [Function.comp]
  split <;> rfl
theorem putD_keys (kds : List (Key × D)) (k : Key) (d : D) : (k ∈ kds.map (·.1) ∧ (putD kds k d).map (·.1) = kds.map (·.1)) ∨ (k ∉ kds.map (·.1) ∧ (putD kds k d).map (·.1) = kds.map (·.1) ++ [k]) := by
  by_cases h : k ∈ kds.map (·.1)
  · exact .inl ⟨h, by rw [putD_in h, map_put_keys]⟩
  · exact .inr ⟨h, by rw [putD_out h]; simp⟩
theorem putD_nd {kds : List (Key × D)} {k : Key} {d : D} (nd : (kds.map (·.1)).Nodup) : ((putD kds k d).map (·.1)).Nodup := by
  rcases putD_keys kds k d with ⟨_, e⟩ | ⟨h, e⟩
  · rw [e]; exact nd
  · rw [e]
    exact List.nodup_append.mpr ⟨nd, by simp, fun a ha b hb => by rw [List.mem_singleton.mp hb]; exact fun e => h (e ▸ ha)⟩
theorem valD_app (xs ys : List (Key × D)) (k : Key) : valD (xs ++ ys) k = (valD xs k).or (valD ys k) := by
  induction xs with
  | nil => simp [valD_nil]
  | cons p xs ih => rw [List.cons_append, valD_cons, valD_cons, ih]; split <;> simp
theorem valD_map_put (kds : List (Key × D)) (k k' : Key) (d : D) : valD (kds.map fun kv => if kv.1 = k then (kv.1, d) else kv) k' = if k' = k then (valD kds k').map (fun _ => d) else valD kds k' := by
  induction kds with
  | nil => simp [valD_nil]
  | cons p kds ih =>
    rw [List.map_cons, valD_cons, valD_cons, ih]
    by_cases h1 : p.1 = k
    · rw [if_pos h1]
      by_cases h2 : k' = k
      · simp [h1, h2]
      · simp [h1, h2, Ne.symm h2]
    · rw [if_neg h1]
      by_cases h2 : k' = k
      · subst h2; simp [h1]
      · simp [h2]
theorem valD_put (kds : List (Key × D)) (k k' : Key) (d : D) : valD (putD kds k d) k' = if k' = k then some d else valD kds k' := by
  by_cases h : k ∈ kds.map (·.1)
  · rw [putD_in h, valD_map_put]
    split
    · rename_i e
      subst e
      obtain ⟨d0, e0⟩ := valD_some h
      rw [e0]; rfl
    · rfl
  · rw [putD_out h, valD_app, valD_cons]
    by_cases e : k' = k
    · subst e
      rw [valD_none.mpr h]; simp
    · rw [if_neg e, if_neg (Ne.symm e)]
      simp [valD_nil]
theorem mem_put {kds : List (Key × D)} {k : Key} {d : D} {p : Key × D} (h : p ∈ putD kds k d) : p = (k, d) ∨ p ∈ kds := by
  by_cases hk : k ∈ kds.map (·.1)
  · rw [putD_in hk] at h
    obtain ⟨q, hq, e⟩ := List.mem_map.mp h
    split at e
    · rename_i e1; exact .inl (by rw [← e, e1])
    · exact .inr (e ▸ hq)
  · rw [putD_out hk] at h
    rcases List.mem_append.mp h with m | m
    · exact .inr m
    · exact .inl (List.mem_singleton.mp m)
theorem merge_nd : ∀ {more kds : List (Key × D)}, (kds.map (·.1)).Nodup → ((mergeD kds more).map (·.1)).Nodup
  | [], kds, nd => nd
  | p :: more, kds, nd => merge_nd (more := more) (kds := putD kds p.1 p.2) (putD_nd nd)
theorem mem_merge : ∀ {more kds : List (Key × D)} {p : Key × D}, p ∈ mergeD kds more → p ∈ kds ∨ p ∈ more
  | [], kds, p, h => .inl h
  | q :: more, kds, p, h => by
    rcases mem_merge (more := more) (kds := putD kds q.1 q.2) h with m | m
    · rcases mem_put m with e | m
      · exact .inr (e ▸ List.mem_cons_self)
      · exact .inl m
    · exact .inr (List.mem_cons_of_mem _ m)
theorem valD_merge : ∀ {more kds : List (Key × D)} (k : Key), (more.map (·.1)).Nodup → valD (mergeD kds more) k = (valD more k).or (valD kds k)
  | [], kds, k, _ => by simp [mergeD, valD_nil]
  | p :: more, kds, k, nd => by
    rw [List.map_cons] at nd
    have nd' := List.nodup_cons.mp nd
    show valD (mergeD (putD kds p.1 p.2) more) k = _
    rw [valD_merge k nd'.2, valD_put, valD_cons]
    by_cases e : k = p.1
    · subst e
      rw [valD_none.mpr nd'.1]; simp
    · rw [if_neg e, if_neg (Ne.symm e)]
/-- what a dict comprehension over names makes -/
theorem fold_put (g : Str → D) : ∀ (ys : List Str) (acc : List (Key × D)), ys.Nodup → (∀ y ∈ ys, (Sum.inr y : Key) ∉ acc.map (·.1)) → ys.foldl (fun acc y => putD acc (.inr y) (g y)) acc = acc ++ ys.map fun y => (Sum.inr y, g y)
  | [], acc, _, _ => by simp
  | y :: ys, acc, nd, h => by
    have nd' := List.nodup_cons.mp nd
    rw [List.foldl_cons, putD_out (h y List.mem_cons_self), fold_put g ys _ nd'.2]
    · simp
    · intro z hz
      rw [List.map_append, List.mem_append]
      rintro (w | w)
      · exact h z (List.mem_cons_of_mem _ hz) w
      · have : z = y := by simpa using w
        exact nd'.1 (this ▸ hz)
/-! sorted texts -/
open PyProof.Rows PySem.Spec in
theorem leS_trans {a b c : Str} (h1 : ltCps b.cps.toList a.cps.toList = false) (h2 : ltCps c.cps.toList b.cps.toList = false) : ltCps c.cps.toList a.cps.toList = false := by
  rw [ltCps_eq, decide_eq_false_iff_not] at h1 h2 ⊢
  exact List.not_lt.mpr (List.le_trans (List.not_lt.mp h1) (List.not_lt.mp h2))
open PyProof.Rows PySem.Spec in
theorem leS_anti {a b : Str} (h1 : ltCps b.cps.toList a.cps.toList = false) (h2 : ltCps a.cps.toList b.cps.toList = false) : a = b := by
  rw [ltCps_eq, decide_eq_false_iff_not] at h1 h2
  have e := List.le_antisymm (List.not_lt.mp h1) (List.not_lt.mp h2)
  cases a; cases b
  simp only at e
  rw [Array.toList_inj] at e
  rw [e]
open PyProof.Rows PySem.Spec in
theorem sortedS_pw : ∀ {l : List Str}, sortedS l = true → l.Pairwise (fun a b => ltCps b.cps.toList a.cps.toList = false) := by
  have rise : ∀ (l : List Str) (p : Str), risingS p l = true → (p :: l).Pairwise (fun a b => ltCps b.cps.toList a.cps.toList = false) := by
    intro l
    induction l with
    | nil => intro p _; simp
    | cons x l ih =>
      intro p h
      have h' : (!ltCps x.cps.toList p.cps.toList && risingS x l) = true := h
      simp only [Bool.and_eq_true, Bool.not_eq_true'] at h'
      have ihx := ih x h'.2
      refine List.pairwise_cons.mpr ⟨fun y hy => ?_, ihx⟩
      rcases List.mem_cons.mp hy with e | m
      · subst e; exact h'.1
      · exact leS_trans h'.1 (List.rel_of_pairwise_cons ihx m)
  intro l h
  cases l with
  | nil => simp
  | cons x l => exact rise l x h
/-- two sorted lists of the same things are one -/
theorem sorted_eq {α : Type} {r : α → α → Prop} (anti : ∀ a b, r a b → r b a → a = b) : ∀ {l m : List α}, l.Pairwise r → m.Pairwise r → l.Perm m → l = m
  | [], m, _, _, p => by rw [List.nil_perm.mp p]
  | x :: l, [], _, _, p => by exact absurd p.length_eq (by simp)
  | x :: l, y :: m, h1, h2, p => by
    have hx : x ∈ y :: m := p.subset List.mem_cons_self
    have hy : y ∈ x :: l := p.symm.subset List.mem_cons_self
    have e : x = y := by
      rcases List.mem_cons.mp hx with e | mx
      · exact e
      · rcases List.mem_cons.mp hy with e | my
        · exact e.symm
        · exact anti x y (List.rel_of_pairwise_cons h1 my) (List.rel_of_pairwise_cons h2 mx)
    subst e
    rw [sorted_eq anti (List.pairwise_cons.mp h1).2 (List.pairwise_cons.mp h2).2 (List.Perm.cons_inv p)]
open PyProof.Rows in
theorem sortedS_eq {l m : List Str} (h1 : sortedS l = true) (h2 : sortedS m = true) (p : l.Perm m) : l = m := sorted_eq (fun a b => leS_anti) (sortedS_pw h1) (sortedS_pw h2) p
/-- lists without doubles that have the same items -/
theorem perm_of {α : Type} [DecidableEq α] {l m : List α} (h1 : l.Nodup) (h2 : m.Nodup) (h : ∀ x, x ∈ l ↔ x ∈ m) : l.Perm m := (List.perm_ext_iff_of_nodup h1 h2).mpr h
/-! ### plain data: what == compares -/
mutual
def plainB : D → Bool
  | .non => true
  | .bl _ => true
  | .int _ => true
  | .str s => PyData.strOk s
  | .lst xs => plainsB xs
  | .tup xs => plainsB xs
  | _ => false
def plainsB : List D → Bool
  | [] => true
  | x :: xs => plainB x && plainsB xs
end
mutual
def depD : D → Nat
  | .lst xs => depsD xs + 1
  | .tup xs => depsD xs + 1
  | _ => 0
def depsD : List D → Nat
  | [] => 0
  | x :: xs => max (depD x) (depsD xs)
end
theorem plains_iff : ∀ {xs : List D}, plainsB xs = true ↔ ∀ x ∈ xs, plainB x = true
  | [] => by simp [plainsB]
  | x :: xs => by simp only [plainsB, Bool.and_eq_true, plains_iff (xs := xs), List.mem_cons, forall_eq_or_imp]
theorem deps_le : ∀ {xs : List D} {n : Nat}, depsD xs ≤ n ↔ ∀ x ∈ xs, depD x ≤ n
  | [], _ => by simp [depsD]
  | x :: xs, n => by simp only [depsD, Nat.max_le, deps_le (xs := xs), List.mem_cons, forall_eq_or_imp]
mutual
theorem py_of : ∀ {x : D}, plainB x = true → ∃ p, pyOf x = some p ∧ p.canLay0 = true ∧ p.depth = depD x ∧ PyData.eqv p p = true
  | .non, _ => ⟨.none, rfl, by simp [PyData.canLay0], by simp [PyData.depth, depD], by simp [PyData.eqv]⟩
  | .bl b, _ => ⟨.bool b, rfl, by simp [PyData.canLay0], by simp [PyData.depth, depD], by simp [PyData.eqv]⟩
  | .int i, _ => ⟨.int i, rfl, by simp [PyData.canLay0], by simp [PyData.depth, depD], by simp [PyData.eqv]⟩
  | .str s, h => ⟨.str s, rfl, by simpa [PyData.canLay0, plainB] using h, by simp [PyData.depth, depD], by simp [PyData.eqv]⟩
  | .lst xs, h => by
    obtain ⟨ps, e, c, d, q⟩ := pys_of (xs := xs) (by simpa [plainB] using h)
    exact ⟨.list ps, by simp [pyOf, e], by simpa [PyData.canLay0] using c, by simp [PyData.depth, depD, d], by simpa [PyData.eqv] using q⟩
  | .tup xs, h => by
    obtain ⟨ps, e, c, d, q⟩ := pys_of (xs := xs) (by simpa [plainB] using h)
    exact ⟨.tuple ps, by simp [pyOf, e], by simpa [PyData.canLay0] using c, by simp [PyData.depth, depD, d], by simpa [PyData.eqv] using q⟩
  | .ty _, h => by simp [plainB] at h
  | .cls _, h => by simp [plainB] at h
  | .dct _, h => by simp [plainB] at h
  | .obj _ _, h => by simp [plainB] at h
  | .scr _, h => by simp [plainB] at h
theorem pys_of : ∀ {xs : List D}, plainsB xs = true → ∃ ps, pyOfs xs = some ps ∧ PyData.canLayAll0 ps = true ∧ PyData.depthAll ps = depsD xs ∧ PyData.eqvAll ps ps = true
  | [], _ => ⟨[], rfl, by simp [PyData.canLayAll0], by simp [PyData.depthAll, depsD], by simp [PyData.eqvAll]⟩
  | x :: xs, h => by
    rw [plainsB, Bool.and_eq_true] at h
    obtain ⟨p, e, c, d, q⟩ := py_of h.1
    obtain ⟨ps, es, cs, ds, qs⟩ := pys_of h.2
    exact ⟨p :: ps, by simp [pyOfs, e, es], by simp [PyData.canLayAll0, c, cs], by simp [PyData.depthAll, depsD, d, ds], by simp [PyData.eqvAll, q, qs]⟩
end
section
variable {nf : Addr → Nat} {Q : D → EV nf → Prop} {x y : D} {env : EV nf}
theorem eqRefl_s (e : x = y) (h1 : plainB x = true) (h2 : depD x ≤ 64) (h : Q (.bl true) env) : OpK (eqQ false) Q x y env := by
  subst e
  obtain ⟨p, e, c, d, q⟩ := py_of h1
  have s : SeqAt.shaped p = true := by unfold SeqAt.shaped; rw [c, d]; simpa using h2
  exact eqDF_s e e s s (by rw [q]; exact h)
theorem neRefl_s (e : x = y) (h1 : plainB x = true) (h2 : depD x ≤ 64) (h : Q (.bl false) env) : OpK (eqQ true) Q x y env := by
  subst e
  obtain ⟨p, e, c, d, q⟩ := py_of h1
  have s : SeqAt.shaped p = true := by unfold SeqAt.shaped; rw [c, d]; simpa using h2
  exact eqDT_s e e s s (by rw [q]; exact h)
/-- xs == [] -/
theorem eqEmpty_s {xs : List D} (h1 : plainsB xs = true) (h2 : depsD xs ≤ 63) (h : Q (.bl xs.isEmpty) env) : OpK (eqQ false) Q (.lst xs) (.lst []) env := by
  obtain ⟨ps, e, c, d, q⟩ := pys_of h1
  have e1 : pyOf (.lst xs) = some (.list ps) := by simp [pyOf, e]
  have s : SeqAt.shaped (.list ps) = true := by unfold SeqAt.shaped; simp [PyData.canLay0, c, PyData.depth, d]; omega
  refine eqDF_s (q := .list []) e1 rfl s (by decide +kernel) ?_
  have : PyData.eqv (.list ps) (.list []) = xs.isEmpty := by
    cases xs with
    | nil => simp only [pyOfs, Option.some.injEq] at e; subst e; rfl
    | cons y ys =>
      have : ps ≠ [] := fun z => by
        subst z
        simp only [pyOfs] at e
        cases hy : pyOf y with
        | none => rw [hy] at e; cases e
        | some p =>
          rw [hy] at e
          cases hys : pyOfs ys with
          | none => rw [hys] at e; cases e
          | some qs => rw [hys] at e; cases e
      cases ps with
      | nil => exact absurd rfl this
      | cons p ps => simp [PyData.eqv, PyData.eqvAll]
  rw [this]
  exact h
theorem neEmpty_s {xs : List D} (h1 : plainsB xs = true) (h2 : depsD xs ≤ 63) (h : Q (.bl (!xs.isEmpty)) env) : OpK (eqQ true) Q (.lst xs) (.lst []) env := by
  obtain ⟨z, hz, hq⟩ := eqEmpty_s (Q := fun d env => ∃ b, d = .bl b ∧ Q (.bl (!b)) env) (env := env) h1 h2 ⟨_, rfl, h⟩
  obtain ⟨b, rfl, hq⟩ := hq
  rcases hz with ⟨c, e, ec⟩ | ⟨p, q, e1, e2, s1, s2, e⟩ | ⟨ks, ls, e1, _⟩
  · cases e
  · refine eqDT_s e1 e2 s1 s2 ?_
    have : b = PyData.eqv p q := by cases e; rfl
    rw [← this]
    exact hq
  · cases e1
end
theorem strs_plain {ss : List Str} (h : ∀ s ∈ ss, PyData.strOk s = true) : plainsB (ss.map .str) = true := plains_iff.mpr fun x hx => by
  obtain ⟨s, hs, rfl⟩ := List.mem_map.mp hx
  exact h s hs
theorem strs_dep (ss : List Str) : depsD (ss.map .str) = 0 := Nat.le_zero.mp (deps_le.mpr fun x hx => by
  obtain ⟨s, hs, rfl⟩ := List.mem_map.mp hx
  simp [depD])
end DL

/-! the end: the head's goal from the law's promise -/
namespace DL
open PySem L2
theorem kit_of {K : PySem.W.Frag} {C : Addr} {t : Value} {b : Bool} {x : _} (h1 : PySem.W.clsIn K C = some x) (h2 : PySem.W.typeIn K (.ref C) = some (.type "type")) (h3 : PySem.W.subIn K t (.ref C) = some b) (hn : (t == .ref C) = false) : PySem.W.kitOne K t (.ref C) = some b := by
  unfold PySem.W.kitOne PySem.W.kitCls
  rw [if_neg (by rw [hn]; exact Bool.false_ne_true)]
  show (if ((PySem.W.clsIn K C).isSome && PySem.W.typeIn K (.ref C) == some (.type "type")) = true then PySem.W.subIn K t (.ref C) else none) = some b
  rw [h1, h2]
  exact h3
theorem toSp_start {K : PySem.W.Frag} {nf : Addr → Nat} {S : SpD nf} {H : Hp} {a : Addr} {ns : List Int} {E : XK} (hO : Only H) (hS : SqL K H a (ns.map V.int)) (h : S [.fz (.scr ns)] fun d _ => d = .bl true) : toSp K nf 1 S [.ref a] H (fun v _ => v = .bl true) E := by
  have sl : SlotR K nf H (some (.ref a)) [] (.fz (.scr ns)) := ⟨rfl, _, rfl, .scr (.of hS hO)⟩
  have R : EnvL K nf H [some (.ref a)] [.fz (.scr ns)] ([] ++ []) := .cons sl .nil (fun a m => by cases m)
  refine ⟨rfl, [.fz (.scr ns)], [], _, rfl, R, h, fun v H' d as' fp' _ r _ _ q => ?_⟩
  subst q
  exact rel_bl r
theorem walkD {l : PySem.W.OpenLaw} {n k : Nat} {q : Program} {loose : List Str} {XP : (Str → Option Value) → Heap → Prop} {YP : World → Heap → Prop} {d : DefRec} {K : Params → PySem.W.Frag} {x : Str} {S : World → PySem.W.Frag → Sp → Prop}
    (hn : l.most = some n) (hn2 : n ≤ sizeLine) (hdf : d.params.defaults = []) (hr : Room k callerA)
    (hY : ∀ (w : World) (h : Heap), YP w h → (K w.params).In h)
    (F : ∀ (w : World) (mg : Str → Option Value) (fa : Addr) (h : Heap), (K w.params).In h → h.Ns mainGlobals mg → XP mg h → mg d.name = some (.ref fa) →
      ∃ (fd : FuncData) (sp : Sp), (∀ (s : Shared) (u : Value), BindsTo s fd ⟨[u], []⟩ [(x, u)]) ∧ S w (K w.params) sp ∧
        ∀ base : Heap, (K w.params).In base → base.Ns mainGlobals mg → FnOk l.prog w (K w.params) mg base CX0 k fa fd [x] sp)
    (Z : ∀ (w : World) (K : PySem.W.Frag) (sp : Sp), S w K sp → ∀ (H : Hp) (a : Addr) (ns : List Int), ns.length ≤ n → Only H → SqL K H a (ns.map V.int) → sp [.ref a] H (fun v _ => v = .bl true) fun _ _ _ => False) :
    PySem.W.WalkO q loose XP YP l.row.toRowW d [] (fun f vs => PySem.call f vs) := by
  refine Att.attach_call hn hdf fun w s₀ s₁ mg mb fa o pm cd doc a vs ns G Y ho hd hcd hmg hobj hints hlen hg => ?_
  have KX := hY w _ Y
  obtain ⟨fd, sp, hb, hS, hF⟩ := F w mg fa _ KX G.T.g G.X hmg
  exact law_call KX G.T.g G.T.b G.T.builtins G.T.nolimit hg hobj hints (Nat.le_trans hlen hn2) hr hF hb (fun H hO hL => Z w _ sp hS H a ns hlen hO hL) fun H e s' z => z
end DL

/-! errors: wishes by data -/
namespace DL
open PySem L2
/-- what is wished of an error: its class, its fields, the slots -/
abbrev XcD (nf : Addr → Nat) := Addr → List (Str × D) → EV nf → Prop
/-- W takes what xc takes -/
structure Link [Anch] (K : PySem.W.Frag) (nf : Addr → Nat) (W : WX) (xc : XcD nf) : Prop where
  to : ∀ {C d fs fds σ H env fp}, EnvR K nf H σ env fp → H d = some (.xd fs) → RelF K nf H fs fds → d ∉ fp → (∃ fp1 H1, Anch.p fp1 H1 ∧ H1 d = none) → xc C fds env → W (.ref C) (some d) σ H
abbrev SpX (nf : Addr → Nat) := List (SD nf) → (D → List (SD nf) → Prop) → (Addr → List (Str × D) → List (SD nf) → Prop) → Prop
def toSpX (K : PySem.W.Frag) (nf : Addr → Nat) (n : Nat) (S : SpX nf) : Sp := fun vs H Q E => vs.length = n ∧ ∃ as fp Qd Xd, as.length = n ∧ EnvL K nf H (vs.map some) as fp ∧ S as Qd Xd ∧
  (∀ v H' d as' fp', as'.length = n → Rel K nf H' v d → EnvL K nf H' (vs.map some) as' fp' → Ch fp H fp' H' → Qd d as' → Q v H') ∧
  ∀ C d fs fds H' as' fp', as'.length = n → EnvL K nf H' (vs.map some) as' fp' → Ch fp H fp' H' → H' d = some (.xd fs) → RelF K nf H' fs fds → d ∉ fp' → H d = none → Xd C fds as' → E (.ref C) (some d) H'
/-- at an error out of the body the owned parameters are still in their slots -/
def fnXc {nf : Addr → Nat} (as : List (SD nf)) (Xd : Addr → List (Str × D) → List (SD nf) → Prop) : XcD nf := fun C fds env => BackOk as env ∧ Xd C fds (back as env)
section
variable {X : Cx} {nf : Addr → Nat}
theorem body_okX {body : List Stmt} {td : XcD nf → DTS nf} {N : List Str} {n : Nat} {S : SpX nf} {E : XK} (h : ∀ (A : Anch) (xc : XcD nf), @Link A X.K nf (fun cls d _ H => E cls d H) xc → @DSs A X nf body (td xc)) (hn : n ≤ N.length)
    (hb : ∀ as Qd Xd, as.length = n → S as Qd Xd → td (fnXc as Xd) (fnEnds as Qd) (as ++ List.replicate (N.length - n) .un))
    {vs : List V} {H : Hp} {Q : VK} (hs : toSpX X.K nf n S vs H Q E) : ∃ t, PSs X body t ∧ t { nx := fun _ H' => Q .non H', rt := Q } (start N vs) H := by
  obtain ⟨hv, as, fp, Qd, Xd, hl, R, s, k, kx⟩ := hs
  let A : Anch := ⟨fun fp' H' => Ch fp H fp' H', fun p c => p.trans c⟩
  have R0 : EnvL X.K nf H (start N vs) (as ++ List.replicate (N.length - n) .un) fp := by
    have := R.pad (N.length - n)
    rw [← hv] at this ⊢
    exact this
  have L : @Link A X.K nf (fun cls d _ H => E cls d H) (fnXc as Xd) := ⟨fun {C d fs fds σ H' env fp'} RR hd rf nd ⟨fp1, H1, p1, e1⟩ ⟨b, q⟩ => by
    have c : Ch fp H fp' H' := RR.2
    obtain ⟨fq, R2, sub⟩ := EnvL.back (c.stpL R0) R RR.1 b
    exact kx C d fs fds H' _ fq (by rw [back_len, hl]) R2 ⟨c.keep, fun a m => c.sub a (sub a m), c.there⟩ hd rf (fun m => nd (sub d m)) ((show Ch fp H fp1 H1 from p1).there d e1) q⟩
  refine ⟨_, h A (fnXc as Xd) L, as ++ List.replicate (N.length - n) .un, fp, fnEnds as Qd, ⟨R0, (Ch.refl : Ch fp H fp H)⟩, hb as Qd Xd hl s, ?_⟩
  refine ⟨fun σ' H' env' fp' R' c ⟨b, q⟩ => ?_, fun v d σ' H' env' fp' r R' c ⟨b, q⟩ => ?_, fun σ' H' env' fp' R' c q => q.elim, fun σ' H' env' fp' R' c q => q.elim, fun _ _ _ _ _ _ _ _ _ _ _ q => q.elim⟩
  · obtain ⟨fq, R2, sub⟩ := EnvL.back (c.stpL R0) R R'.1 b
    exact k .non H' .non _ fq (by rw [back_len, hl]) .non R2 ⟨c.keep, fun a m => c.sub a (sub a m), c.there⟩ q
  · obtain ⟨fq, R2, sub⟩ := EnvL.back (c.stpL R0) R R'.1 b
    exact k v H' d _ fq (by rw [back_len, hl]) r R2 ⟨c.keep, fun a m => c.sub a (sub a m), c.there⟩ q
end
section
variable [Anch] {X : Cx} {nf : Addr → Nat} {K : PySem.W.Frag} {W : WX} {xc : XcD nf}
/-! ### a call that may raise -/
def dCallX (xc : XcD nf) (n : Nat) (S : SpX nf) (dds : List D) (r : DM nf) : DT nf := fun env Q => r env fun ads env1 => ads.length + dds.length = n ∧ (slotsOf (ads ++ dds.map AD.v)).Nodup ∧ (∀ i ∈ slotsOf (ads ++ dds.map AD.v), i < env1.length) ∧
  S ((ads ++ dds.map AD.v).map (resolve env1)) (fun d as' => Q d (putBack env1 (ads ++ dds.map AD.v) as')) fun C fds as' => xc C fds (putBack env1 (ads ++ dds.map AD.v) as')
theorem spX_run {S : SpX nf} {n : Nat} {σ : St} {H : Hp} {Q : VK} {env : EV nf} {fp : List Addr} {vs : List V} {ads : List AD} {Qd : D → EV nf → Prop} (lk : Link K nf W xc) (R : EnvR K nf H σ env fp) (M : ArgsM K nf H σ vs ads) (hn : ads.length = n)
    (nd : (slotsOf ads).Nodup) (hin : ∀ i ∈ slotsOf ads, i < env.length) (s : S (ads.map (resolve env)) (fun d as' => Qd d (putBack env ads as')) fun C fds as' => xc C fds (putBack env ads as'))
    (k : ∀ v H' d env' fp', Rel K nf H' v d → EnvR K nf H' σ env' fp' → Ch fp H fp' H' → Qd d env' → Q v H') : toSpX K nf n S vs H Q (WE W σ) := by
  obtain ⟨fpa, RA, put⟩ := R.args M nd hin
  refine ⟨by rw [M.len, hn], _, fpa, _, _, by rw [List.length_map, hn], RA, s, fun v H' d as' fp' hl r R' c q => ?_, fun C d fs fds H' as' fp' hl R' c hd rf ndf hnew q => ?_⟩
  · obtain ⟨fp2, R2, c2, _⟩ := put H' as' fp' (by rw [hl, hn]) R' c
    exact k v H' d _ fp2 r R2 c2 q
  · obtain ⟨fp2, R2, c2, sub2, _⟩ := put H' as' fp' (by rw [hl, hn]) R' c
    refine lk.to R2 hd rf (fun m => ?_) ⟨fp, H, R.2, hnew⟩ q
    rcases sub2 d m with z | ⟨z, _⟩
    · exact ndf z
    · obtain ⟨u, e, _⟩ := R.trk d z
      rw [hnew] at e; cases e
section
variable {k n : Nat} {f C : Addr} {fd : FuncData} {ps : List Str} {S : SpX nf} {dvs : List V} {dds : List D} {ds : List Value} {x m : Str} {p pos apos : Pos} {e o : Expr} {es : List Expr} {r : DM nf} {da : DT nf}
theorem de_callX (F : FnOk X.prog X.w X.K X.mg X.base (L2.CX X.prog X.w) k f fd ps (toSpX X.K nf n S)) (hr : Room k X.A) (hg : Gl X x) (hm : X.mg x = some (.ref f)) (hk : PySem.W.keepIn X.K (.ref f) = true) (hb : Binds X.K fd ps ds) (hd : Vals dvs ds) (hdd : ∀ H, Rels X.K nf H dvs dds) (tk : Takes X W) (lk : Link X.K nf W xc)
    (ha : DAM X nf (e :: es) r) (hdb : (x == ("__debug__" : Str)) = false := by decide) (he : starEach (e :: es) X.env = (false, eval e X.env) :: starEach es X.env := by rfl) (hpl : (backTo pos (starEach es X.env)).any (·.1) = false := by rfl) :
    DE X nf (.Call (.Name x p) (e :: es) [] pos) (dCallX xc n S dds r) := pe_imp (pe_callSD (E := WE W) F hr hg hm hk hb hd (fun σ => passAt tk σ) ha hdb he hpl) fun σ H Q h => by
  obtain ⟨env, fp, Qd, R, h, k⟩ := h
  refine ⟨env, fp, _, R, h, fun vs H1 ads env1 fp1 r1 R1 c1 ⟨hl, nd, hin, s⟩ => ?_⟩
  exact spX_run lk R1 (r1.app id (hdd H1)) (by rw [List.length_append, List.length_map, hl]) nd hin s fun v H' d env' fp' r' R' c' q => k v H' d env' fp' r' R' (c1.trans c') q
end
/-! ### raise C(..) -/
/-- what making an error of the class at C leaves: its fields in its own dict -/
def tMkE (C : Addr) (ms : List Str) (ta : TA) : St → Hp → XK → Prop := fun σ H Q => ta σ H fun vs H1 => vs.length = ms.length ∧ ∀ d, H1 d = none → Q (.ref C) (some d) (upd H1 d (.xd (ms.zip vs)))
def sRaise (xc : XcD nf) (C : Addr) (ms : List Str) (r : DAs nf) : DTS nf := fun _ env => r env fun ds env1 => ds.length = ms.length ∧ xc C (ms.zip ds) env1
theorem relF_zip {H : Hp} : ∀ {vs : List V} {ds : List D} (ms : List Str), Rels K nf H vs ds → RelF K nf H (ms.zip vs) (ms.zip ds)
  | _, _, [], _ => by simp only [List.zip_nil_left]; exact .nil
  | _, _, _ :: _, .nil => .nil
  | _, _, m :: ms, .cons h r => .cons h (relF_zip ms r)
theorem ds_raise {e : Expr} {es : List Expr} {C : Addr} {ms : List Str} {r : DAs nf} {pos : Pos} (hc : X.calm = true) (tk : Takes X W) (lk : Link X.K nf W xc) (hm : ∀ {ta : TA}, PA X es ta → PMk X e (tMkE C ms ta)) (ha : DA X nf es r) : DS X nf (.Raise (some e) none pos) (sRaise xc C ms r) :=
  ps_imp (ps_raise hc tk (hm ha)) fun E σ H ⟨env, fp, De, R, q, br⟩ => ⟨env, fp, _, R, q, fun vs H1 ds env1 fp1 r1 R1 c1 ⟨hl, q1⟩ => ⟨by rw [r1.length, hl], fun d hd => by
    have x : Xt H1 (upd H1 d (.xd (ms.zip vs))) := Xt.new hd
    refine lk.to (R1.ext x) upd_same ((relF_zip ms r1).mono x.stp) (fun m => ?_) ⟨fp1, H1, R1.2, hd⟩ q1
    obtain ⟨u, e, _⟩ := R1.trk d m
    rw [hd] at e; cases e⟩⟩
end
end DL

/-! own errors whose __init__ says super().__init__("..") and then stores its parameters under their names -/
namespace DL
open PySem PySem.W PySem.Calls PyProof.Rows PySem.HandSPX
/-! ### the text -/
inductive FldB : List Str → List Stmt → Prop
  | nil : FldB [] []
  | cons {f : Str} {fl : List Str} {ss : List Stmt} {q1 q2 q3 q4 : Pos} (h : FldB fl ss) : FldB (f :: fl) (.Assign [.Attribute (.Name "self" q1) f q2] (.Name f q3) q4 :: ss)
def SupB (msg : Str) (fl : List Str) (body : List Stmt) : Prop := ∃ p0 p1 p2 p3 p4 p5 j ss, body = .Expr (.Call (.Attribute (.Call (.Name "super" p0) [] [] p1) "__init__" p2) [.Constant (.str msg) j p3] [] p4) p5 :: ss ∧
  (∀ env : Env, ∃ pl : Sem Bool, eval (.Call (.Attribute (.Call (.Name "super" p0) [] [] p1) "__init__" p2) [.Constant (.str msg) j p3] [] p4) env = (do
      let ov ← attributeBase (.Call (.Name "super" p0) [] [] p1) "__init__" env (eval (.Call (.Name "super" p0) [] [] p1) env)
      standAt p2.atName
      let (f, first) ← holding [ov] (getMethod ov "__init__" pl)
      callWith p4 f first (backTo p4 (starEach [.Constant (.str msg) j p3] env)) [])) ∧ FldB fl ss
/-- what the written part says of the error class at C and of its __init__ at fI -/
structure SupC (K : Frag) (prog : Program) (C fI : Addr) (fd : FuncData) (fl : List Str) : Prop where
  cls : ∃ nm q N bs bm sn sub ab col dd k0 k1 k2 k3 k5, K.lookup C = some (excClassObj nm q C N bs bm true sn sub ab col dd k0 k1 k2 k3 k5 "ValueError.__new__") ∧ refsVE bm = true ∧ alongIn K "__init__" bm = some (some (.builtin "ValueError.__init__"))
  sa : findIn K (.ref C) "__setattr__" = some (some (.builtin "object.__setattr__"))
  ga : findIn K (.ref C) "__getattribute__" = some (some (.builtin "BaseException.__getattribute__"))
  gg : findIn K (.ref C) "__getattr__" = some none
  noF : ∀ f ∈ fl, findIn K (.ref C) f = some none
  iC : findIn K (.ref C) "__init__" = some (some (.ref fI))
  tI : typeIn K (.ref fI) = some (.type "function")
  kC : keepIn K (.ref C) = true
  exC : subIn K (.ref C) (.type "BaseException") = some true
  sv : subIn K (.ref C) (.type "ValueError") = some true
  tyC : typeIn K (.ref C) = some (.type "type")
  hdC : hasDictIn K C = true
  op : nsIn K cStatics "thirdparty.any" = some none
  fn : ∃ oc od osl, K.lookup fI = some ⟨oc, od, .func fd, osl⟩
  body : ∃ msg ss, fd.body = .stmts ss ∧ SupB msg fl ss
  glob : fd.globals = mainGlobals
  blt : fd.builtins = builtinsNs
  code : codeIn K fd.code fd.qualname = true
  cdo : ∃ cda ccl cdd vs ccs file tf, fd.code = .ref cda ∧ K.lookup cda = some ⟨ccl, cdd, .fields vs, ccs⟩ ∧ vs[2]? = some (.str file tf) ∧ ((prog.main.file : Str) == file) = true
  cell : ∃ cc cl cld csl, fd.closure.lookup ("__class__" : Str) = some cc ∧ K.lookup cc = some ⟨cl, cld, .cell (some (.ref C)), csl⟩
  kind : fd.scope.kind = .function
  co : fd.scope.isCoroutine = false
  gen : fd.scope.isGenerator = false
  nocell : ∀ x ∈ fd.scope.names, x.2 ≠ .cell
  hks : fd.scope.names.lookup ("super" : Str) = some .globalImplicit
  hkc : fd.scope.names.lookup ("__class__" : Str) = some .free
  loc : ∀ y ∈ ("self" : Str) :: fl, fd.scope.names.lookup y = some .local
  par : ∃ ar : Arg, (fd.params.posonlyargs ++ fd.params.args).head? = some ar ∧ ar.arg = "self"
  bd : ∀ (s : Shared) (us : List Value), us.length = fl.length + 1 → BindsTo s fd ⟨us, []⟩ ((("self" : Str) :: fl).zip us)
  nd : (("self" : Str) :: fl).Nodup
  few : fl.length ≤ 100
  ne : fl ≠ []
  dbg : ∀ y ∈ ("self" : Str) :: fl, (y == ("__debug__" : Str)) = false
  htop : (prog.main.scope.names.lookup ("super" : Str)).isSome = false
theorem lookR : ∀ {l : List (Str × Value)} {k : Str} {v : Value}, (l.map (·.1)).Nodup → (k, v) ∈ l → l.reverse.lookup k = some v := by
  intro l k v nd m
  have nd' : (l.reverse.map (·.1)).Nodup := by rw [List.map_reverse]; exact ((List.reverse_perm _).nodup_iff).mpr nd
  have m' : (k, v) ∈ l.reverse := List.mem_reverse.mpr m
  generalize l.reverse = r at nd' m'
  induction r with
  | nil => cases m'
  | cons p r ih =>
    rw [List.map_cons, List.nodup_cons] at nd'
    rcases List.mem_cons.mp m' with e | m2
    · subst e; simp [List.lookup]
    · have : (k == p.1) = false := by
        simp only [beq_eq_false_iff_ne]
        intro e
        exact nd'.1 (e ▸ List.mem_map.mpr ⟨_, m2, rfl⟩)
      obtain ⟨pk, pv⟩ := p
      simp only [List.lookup, this]
      exact ih nd'.2 m2
/-- stores, one by one -/
def putsF : (Str → Option Value) → List (Str × Value) → Str → Option Value
  | m0, [] => m0
  | m0, (f, v) :: r => putsF (fun y => if y = f then some v else m0 y) r
theorem putsF_get : ∀ (l : List (Str × Value)) (m0 : Str → Option Value), (l.map (·.1)).Nodup → ∀ y, putsF m0 l y = (l.lookup y).or (m0 y)
  | [], m0, _, y => by simp [putsF]
  | (f, v) :: r, m0, nd, y => by
    rw [List.map_cons, List.nodup_cons] at nd
    show putsF (fun y => if y = f then some v else m0 y) r y = _
    rw [putsF_get r _ nd.2 y]
    by_cases e : y = f
    · subst e
      have : r.lookup y = none := by
        apply List.lookup_eq_none_iff.mpr
        intro p hp
        simp only [bne_iff_ne, ne_eq]
        exact fun e => nd.1 (List.mem_map.mpr ⟨p, hp, e.symm⟩)
      rw [this]
      simp [List.lookup]
    · have e' : (y == f) = false := by simpa using e
      simp [List.lookup, e', e]
section
variable {prog : Program} {w : World} {A : Around} {E : Value → Shared → Prop} {R : Result → Shared → Prop} {h : Heap} {g : Array GenState} {d : Drawn} {t : Nat} {os : OsState}
/-- ValueError.__init__, bound to e, called -/
theorem call_mwV {nm q : Str} {C N : Addr} {bs bm : List Value} {hdct : Bool} {sn : List Str} {sub : List Value} {ab : Bool} {col : Option Bool} {dd : Option Addr} {k0 k1 k2 k3 k5 : Option Value} {u e t0 : Addr} {rest : List Value} {Q : Value → Shared → Prop}
    (hC : h.get? C = some (excClassObj nm q C N bs bm hdct sn sub ab col dd k0 k1 k2 k3 k5 "ValueError.__new__")) (he : h.get? e = some (excO C t0)) (hu : h.get? u = some (kxs_mw "ValueError.__init__" e)) (hrest : rest.length ≤ sizeLine)
    (hq : ∀ h' t1, (∀ b o, b ≠ e → h.get? b = some o → h'.get? b = some o) → h'.get? e = some (excO C t1) → Q .none ⟨h', g, d, t, os⟩) : wpAny (model prog w) A (call (.ref u) rest) Q E ⟨h, g, d, t, os⟩ := by
  have FB := PySem.F.excBase_ValueError
  have wrapper : (Value.type "method-wrapper" == Value.type "method" || Value.type "method-wrapper" == Value.type "builtin_function_or_method" || Value.type "method-wrapper" == Value.type "method-wrapper") = true := by decide
  refine wpAny_call (codeAny_of_tree ?_)
  show wpAny _ A.in1 (callAny (.ref u) ⟨rest, []⟩) _ _ _
  unfold callAny
  refine wpAny_bind (wpAny_load hu ?_)
  dsimp only [kxs_mw]
  rw [if_pos wrapper]
  refine KFB.if_so (by decide) ?_
  refine wpAny_bind (check_bound_init FB.toExcCallFacts hC he rfl ?_)
  refine wpAny_bind (wpAny_pure (wpAny_pure ⟨plainId_quiet FB.init.plain _, codeAny_builtin FB.initEntry ?_⟩))
  exact exc_init_tree (cls := .ref C) (t0 := t0) (dv := none) (c2 := .none) (c3 := .none) (b4 := .bool false) he hrest fun h' k e' _ => hq h' _ k e'
end
section
variable {prog : Program} {w : World} {A : Around} {E : Value → Shared → Prop} {R : Result → Shared → Prop} {K : Frag} {C fI : Addr} {fd : FuncData} {fl : List Str}
/-- what __init__ leaves of a fresh exception at x -/
structure SupEnd (h h' : Heap) (x C dx : Addr) (l : List (Str × Value)) : Prop where
  keep : ∀ b o, b ≠ x → h.get? b = some o → h'.get? b = some o
  obj : ∃ t1, h'.get? x = some { cls := .ref C, dict := some dx, data := .fields #[.ref t1, .none, .none, .none, .bool false, .none] }
  dbig : h.objs.size ≤ dx
  dne : dx ≠ x
  ns : h'.Ns1 dx (putsF (fun _ => none) l)
/-- the fields behind the first -/
theorem more_flds (S : SupC K prog C fI fd fl) {env : Env} (hke : env.scope.kind = .function) (hsc : ∀ y ∈ ("self" : Str) :: fl, env.kindOf y = some .local) {x dx t1 : Addr} {cd : ClassData} (hcd : clsIn K C = some cd) (hm : refsVE cd.mro = true) (hh : cd.hasDict = true) {m : Str → Option Value} (hmx : m "self" = some (.ref x)) (hne : env.locals ≠ dx) (hnx : env.locals ≠ x)
    (hKd : K.lookup dx = none) (hKx : K.lookup x = none) (hxd : x ≠ dx) :
    ∀ (r : List (Str × Value)) (ss : List Stmt) (s : Shared) (m0 : Str → Option Value) (nl : List Str) (Q : Flow → Shared → Prop), FldB (r.map (·.1)) ss → (∀ p ∈ r, p.1 ∈ fl ∧ m p.1 = some p.2) → K.In s.heap → s.heap.Ns env.locals m →
      s.heap.get? x = some { cls := .ref C, dict := some dx, data := .fields #[.ref t1, .none, .none, .none, .bool false, .none] } → s.heap.Ns1 dx m0 → Within m0 nl → nl.length + r.length ≤ 1000 →
      (∀ h' tk, (∀ b o, b ≠ dx → s.heap.get? b = some o → h'.get? b = some o) → h'.Ns1 dx (putsF m0 r) → Q .next { s with heap := h', toks := tk }) → wpAny (model prog w) A (execs ss env) Q E s
  | [], ss, s, m0, nl, Q, hb, hv, X, hn, hx, hns, hw, hz, hq => by
    cases hb
    exact wpAny_execs_nil (hq s.heap s.toks (fun _ _ _ e => e) hns)
  | (f, v) :: r, ss, s, m0, nl, Q, hb, hv, X, hn, hx, hns, hw, hz, hq => by
    cases hb with
    | cons hb' =>
      obtain ⟨hf, hfv⟩ := hv (f, v) List.mem_cons_self
      obtain ⟨hp, g, dr, tk, os⟩ := s
      refine wpAny_execs_cons (plainObj_wpAny_Assign_Attribute ?_)
      refine ESX.ldL (m := m) hn hfv (ESX.ldL (m := m) hn hmx ?_ hke (hsc _ List.mem_cons_self) (S.dbg _ List.mem_cons_self)) hke (hsc _ (List.mem_cons_of_mem _ hf)) (S.dbg _ (List.mem_cons_of_mem _ hf))
      obtain ⟨oD, _, _, hoD, _, _⟩ := hns.count hw
      refine set_plain X (ox := { cls := .ref C, dict := some dx, data := .fields #[.ref t1, .none, .none, .none, .bool false, .none] }) (od := some oD) ⟨hx, rfl, rfl, hoD⟩ S.sa ?_
      refine OEX.osa_old X hx hns hw (by rw [List.length_cons] at hz; omega) hcd hm hh (S.noF f hf) fun h' tk' k' hn' => ?_
      have X' : K.In h' := fun b o e => k' b o (fun z => by rw [z, hKd] at e; cases e) (X b o e)
      have hnL : h'.Ns env.locals m := by
        obtain ⟨oL, es, ep, hL, r⟩ := hn
        exact ⟨oL, es, ep, k' _ _ hne hL, r⟩
      refine more_flds S hke hsc hcd hm hh hmx hne hnx hKd hKx hxd r _ ⟨h', g, dr, tk', os⟩ _ (f :: nl) Q hb' (fun p hp => hv p (List.mem_cons_of_mem _ hp)) X' hnL (k' _ _ hxd hx) hn' (Within.cons f v hw) (by rw [List.length_cons] at hz ⊢; omega) fun h2 tk2 k2 hn2 => ?_
      exact hq h2 tk2 (fun b o hb e => k2 b o hb (k' b o hb e)) hn2
end
section
variable {prog : Program} {w : World} {A : Around} {R : Result → Shared → Prop} {s : Shared} {K : Frag} {C fI : Addr} {fd : FuncData} {fl : List Str}
theorem sup_init (S : SupC K prog C fI fd fl) {x t0 : Addr} {vs : List Value} (hlen : vs.length = fl.length) (X : K.In s.heap) (hlim : s.heap.NoLimit) {mg mb : Str → Option Value} (hg : s.heap.Ns mainGlobals mg) (hmg : mg "super" = none) (hb : s.heap.Ns builtinsNs mb) (hmb : mb "super" = some (.type "super"))
    (hx : s.heap.get? x = some (excO C t0)) (hnx : K.lookup x = none) (hroom : A.depth < recursionLimit)
    (hq : ∀ h' tk dx, SupEnd s.heap h' x C dx (fl.zip vs) → R (.ok (.ret .none)) { s with heap := h', toks := tk }) :
    codeAny (model prog w) A (.call (.ref fI) ⟨.ref x :: vs, []⟩) R s := by
  obtain ⟨nm, q, N, bs, bm, sn, sub, ab, col, dd, k0, k1, k2, k3, k5, hC, hbm, hal⟩ := S.cls
  obtain ⟨oc, od, osl, ho⟩ := S.fn
  obtain ⟨msg, ss0, eb, p0, p1, p2, p3, p4, p5, j, ss, e0, hline, hfl⟩ := S.body
  subst e0
  obtain ⟨cda, ccl, cdd, vs2, ccs, file, tf, ecode, hcda, hvs, hfile⟩ := S.cdo
  obtain ⟨cc, cl, cld, csl, hclo, hcell⟩ := S.cell
  obtain ⟨ar, hpar, har⟩ := S.par
  have hcl : clsIn K C = some { name := nm, bases := bs, mro := .ref C :: bm, ns := N, qualname := q, hasDict := true, slotNames := sn, subclasses := sub, abstract := ab, collection := col, hasDel := false } := by unfold clsIn; rw [hC] <;> rfl
  have hzip : ((("self" : Str) :: fl).zip (Value.ref x :: vs)).map (·.1) = ("self" : Str) :: fl := by
    rw [List.map_fst_zip]
    rw [List.length_cons, List.length_cons, hlen]
    exact Nat.le_refl _
  have hsub : mroIn K C (.ref C) = some true := by
    unfold mroIn
    rw [hcl, Option.bind_some]
    simp
  refine ks_codeAny_call_defAt (fd := fd) (binds := (("self" : Str) :: fl).zip (.ref x :: vs)) hroom (X _ _ ho) rfl hlim (codeRec_of X S.code) eb (S.bd _ _ (by rw [List.length_cons, hlen])) S.nocell (fun y hy => S.loc y.1 (by rw [← hzip]; exact List.mem_map.mpr ⟨y, hy, rfl⟩)) (fun h₁ hn₁ k₁ => ?_) S.co S.gen S.kind
  obtain ⟨hp, g, dr, tk, os⟩ := s
  generalize hm : (fun x_1 => List.lookup x_1 ((("self" : Str) :: fl).zip (Value.ref x :: vs)).reverse) = m at hn₁
  have hms : m "self" = some (.ref x) := by
    rw [← hm]
    exact lookR (by rw [hzip]; exact S.nd) List.mem_cons_self
  have hmf : ∀ p ∈ fl.zip vs, m p.1 = some p.2 := fun p hp => by
    rw [← hm]
    exact lookR (by rw [hzip]; exact S.nd) (List.mem_cons_of_mem _ hp)
  have X₁ : K.In h₁ := X.keeps k₁
  have hx₁ := k₁ _ _ hx
  have hLx : hp.objs.size ≠ x := Nat.ne_of_gt (Heap.lt_size hx)
  have hLt : hp.objs.size < h₁.objs.size := hn₁.lt
  have hk : ∀ y, (callEnv fd hp.objs.size fI).kindOf y = fd.scope.names.lookup y := fun _ => rfl
  obtain ⟨oC, hoC, hoCd⟩ : ∃ oC, h₁.get? C = some oC ∧ oC.data = .cls { name := nm, bases := bs, mro := .ref C :: bm, ns := N, qualname := q, hasDict := true, slotNames := sn, subclasses := sub, abstract := ab, collection := col, hasDel := false } := ⟨_, X₁ _ _ hC, rfl⟩
  -- super().__init__("..")
  obtain ⟨pl, hev⟩ := hline (callEnv fd hp.objs.size fI)
  refine ks_wpAt_execs_cons (ks_wpAt_Expr_any (ks_wpAt_MethodCall (pl := pl) ?_ hev) ?_)
  · refine ks_wpAt_super_base (env := callEnv fd hp.objs.size fI) S.hks S.hkc (by decide) rfl (X₁ _ _ ho) rfl hpar ecode (X₁ _ _ hcda) rfl hvs hfile S.htop ?_
    refine ks_loadName_global S.kind S.hks (loadGlobal_builtin (env := callEnv fd hp.objs.size fI) (mg := mg) (mb := mb) ?_ hmg ?_ hmb ⟨rfl, ?_⟩)
    · show h₁.Ns fd.globals mg
      rw [S.glob]; exact hg.keeps k₁
    · show h₁.Ns fd.builtins mb
      rw [S.blt]; exact hb.keeps k₁
    refine wpAny_loadName_free S.kind S.hkc hclo ⟨_, X₁ _ _ hcell, rfl⟩ ?_
    rw [har]
    refine wpAny_loadName_local S.kind (S.loc _ List.mem_cons_self) hn₁ hms ?_
    refine ks_wpAny_isType_cls hoC hoCd ⟨rfl, ?_⟩
    refine ks_wpAny_call_super hoC hoCd hx₁ rfl (fun c e => by cases e) (looks_mroIn X₁ hsub) (fun h₂ e₂ k₂ => ?_)
    have X₂ : K.In h₂ := X₁.keeps k₂
    have hx₂ := k₂ _ _ hx₁
    have I₂ : InstAt h₂ x (excO C t0) C none := ⟨hx₂, rfl, rfl, trivial⟩
    refine kxs_getMethod kxs_ValueError e₂ (looks_opaque X₂ S.op) (l₀ := .ref C :: bm) ((looks_clsIn X₂ hcl).andThen .now) (ESX.drop_own C bm) X₂ hal (I₂.type.andThen (looks_subIn X₂ S.sv)) (ks_ne X₂ I₂ hcl) (by decide) ?_
    have k₃ : ∀ b o, h₂.get? b = some o → (h₂.push (kxs_mw "ValueError.__init__" x)).get? b = some o := fun b o e => Heap.get?_push_of_some _ e
    refine kxs_callWith (i := "ValueError.__init__") (x := x) rfl (evalArgs_plain ?_)
    show wpAny _ _ (spliced [(false, eval (.Constant (.str msg) j p3) (callEnv fd hp.objs.size fI))]) _ _ _
    refine spliced_cons (wpAny_Constant_str (spliced_nil ⟨?_, ?_⟩))
    · exact Heap.get?_push_at rfl rfl
    refine call_mwV (C := C) (X₂ _ _ hC |> k₃ _ _) (k₃ _ _ hx₂) (Heap.get?_push_at rfl rfl) (by rw [sizeLine_eq]; exact (by decide : 1 ≤ 16777216)) fun h₄ t1 k₄ hx₄ => ?_
    have keep : ∀ b o, b ≠ x → h₁.get? b = some o → h₄.get? b = some o := fun b o hb e => k₄ b o hb (k₃ b o (k₂ b o e))
    have X₄ : K.In h₄ := fun b o e => keep b o (fun z => by rw [z, hnx] at e; cases e) (X₁ b o e)
    have hn₄ : h₄.Ns hp.objs.size m := by
      obtain ⟨oL, es, ep, hL, r⟩ := hn₁
      exact ⟨oL, es, ep, keep _ _ hLx hL, r⟩
    -- the fields
    refine wpAt_of_wpAny ?_
    cases fl with
    | nil => exact absurd rfl S.ne
    | cons f fl' =>
      cases vs with
      | nil => cases hlen
      | cons v vs' =>
        cases hfl with
        | cons hfl' =>
          refine wpAny_execs_cons (plainObj_wpAny_Assign_Attribute ?_)
          have hf : f ∈ f :: fl' := List.mem_cons_self
          refine ESX.ldL (m := m) hn₄ (hmf (f, v) List.mem_cons_self) (ESX.ldL (m := m) hn₄ hms ?_ S.kind (S.loc _ List.mem_cons_self) (S.dbg _ List.mem_cons_self)) S.kind (S.loc _ (List.mem_cons_of_mem _ hf)) (S.dbg _ (List.mem_cons_of_mem _ hf))
          refine set_plain X₄ (ox := excO C t1) (od := none) ⟨hx₄, rfl, rfl, trivial⟩ S.sa ?_
          refine exc_osa X₄ hx₄ hcl (show refsVE (.ref C :: bm) = true from hbm) rfl (S.noF f hf) (fun h₅ tk₅ dx k₅ dn dne hx₅ hn₅ => ?_)
          have hLd : hp.objs.size < dx := Nat.lt_of_lt_of_le hn₄.lt dn
          have hKd : K.lookup dx = none := by
            cases e : K.lookup dx with
            | none => rfl
            | some o => exact absurd (Heap.lt_size (X₄ _ _ e)) (Nat.not_lt.mpr dn)
          have X₅ : K.In h₅ := fun b o e => k₅ b o (fun z => by rw [z, hnx] at e; cases e) (X₄ b o e)
          have hn5 : h₅.Ns hp.objs.size m := by
            obtain ⟨oL, es, ep, hL, r⟩ := hn₄
            exact ⟨oL, es, ep, k₅ _ _ hLx hL, r⟩
          have hr : (fl'.zip vs').map (·.1) = fl' := by
            rw [List.map_fst_zip]
            have : vs'.length = fl'.length := by simpa using hlen
            omega
          have hw : Within (fun y => if y = f then some v else none) [f] := Within.cons f v (Within.nil)
          refine more_flds S (env := callEnv fd hp.objs.size fI) S.kind (fun y hy => S.loc y hy) hcl (show refsVE (.ref C :: bm) = true from hbm) rfl hms (Nat.ne_of_lt hLd) hLx hKd hnx dne.symm (fl'.zip vs') _ ⟨h₅, g, dr, tk₅, os⟩ _ [f] _ (by rw [hr]; exact hfl') (fun p hp => ⟨?_, hmf p (List.mem_cons_of_mem _ hp)⟩) X₅ hn5 hx₅ hn₅ hw ?_ fun h₆ tk₆ k₆ hn₆ => ?_
          · have : p.1 ∈ (fl'.zip vs').map (·.1) := List.mem_map.mpr ⟨p, hp, rfl⟩
            rw [hr] at this
            exact List.mem_cons_of_mem _ this
          · have := S.few
            have h2 : (fl'.zip vs').length = fl'.length := by rw [← List.length_map (f := (·.1)), hr]
            rw [List.length_cons] at this
            show 1 + (fl'.zip vs').length ≤ 1000
            omega
          · refine hq h₆ tk₆ dx ⟨fun b o hb e => k₆ b o (fun z => ?_) (k₅ b o hb (keep b o hb (k₁ b o e))), ⟨t1, k₆ _ _ dne.symm hx₅⟩, Nat.le_of_lt hLd, dne, hn₆⟩
            have e : hp.get? b = some o := e
            subst z
            exact absurd (Heap.lt_size e) (Nat.not_lt.mpr (Nat.le_of_lt hLd))
  · unfold interactive
    have : (callEnv fd hp.objs.size fI).scope.kind = .function := S.kind
    rw [this]
    rfl
end
section
variable {prog : Program} {w : World} {A : Around} {R : Result → Shared → Prop} {s : Shared} {K : Frag} {C fI : Addr} {fd : FuncData} {fl : List Str}
/-- a made error -/
structure SupMade (h h' : Heap) (e C d : Addr) (l : List (Str × Value)) : Prop where
  keep : ∀ b o, h.get? b = some o → h'.get? b = some o
  new : h.objs.size ≤ e
  obj : ∃ oe vs, h'.get? e = some oe ∧ oe.cls = .ref C ∧ oe.dict = some d ∧ oe.data = .fields vs ∧ vs[1]? = some .none
  dbig : h.objs.size ≤ d
  dne : d ≠ e
  ns : h'.Ns1 d (putsF (fun _ => none) l)
theorem sup_made (S : SupC K prog C fI fd fl) {vs : List Value} (hlen : vs.length = fl.length) (X : K.In s.heap) (hlim : s.heap.NoLimit) {mg mb : Str → Option Value} (hg : s.heap.Ns mainGlobals mg) (hmg : mg "super" = none) (hb : s.heap.Ns builtinsNs mb) (hmb : mb "super" = some (.type "super"))
    (hroom : A.depth + 1 < recursionLimit) (hq : ∀ h' tk e d, SupMade s.heap h' e C d (fl.zip vs) → R (.ok (.ret (.ref e))) { s with heap := h', toks := tk }) :
    codeAny (model prog w) A (.call (.ref C) ⟨vs, []⟩) R s := by
  obtain ⟨nm, q, N, bs, bm, sn, sub, ab, col, dd, k0, k1, k2, k3, k5, hC, hbm, hal⟩ := S.cls
  obtain ⟨hp, g, dr, tk, os⟩ := s
  have k : ∀ b o, hp.get? b = some o → ((hp.push (kdv_tup vs)).push (excO C hp.objs.size)).get? b = some o := fun b o e => Heap.get?_push_of_some _ (Heap.get?_push_of_some _ e)
  have hnew : ((hp.push (kdv_tup vs)).push (excO C hp.objs.size)).get? (hp.objs.size + 1) = some (excO C hp.objs.size) := by heap_get
  have hnx : K.lookup (hp.objs.size + 1) = none := by
    cases e : K.lookup (hp.objs.size + 1) with
    | none => rfl
    | some o =>
      have z : hp.get? (hp.objs.size + 1) = some o := X _ _ e
      exact absurd (Nat.lt_of_succ_lt (Heap.lt_size z)) (Nat.lt_irrefl _)
  have hfew := S.few
  refine call_own PySem.F.excBase_ValueError (fun X => refsVE_contains X bm hbm) (X _ _ hC) (looks_findIn X S.iC) (fun self => bind_fn X self S.tI) (by rw [hlen, sizeLine_eq]; omega) ?_
  refine sup_init (s := ⟨(hp.push (kdv_tup vs)).push (excO C hp.objs.size), g, dr, tk, os⟩) S hlen (X.keeps k) (hlim.keeps k) (hg.keeps k) hmg (hb.keeps k) hmb hnew hnx ?_ fun h' tk' dx Z => ?_
  · show A.depth + 1 < recursionLimit
    exact hroom
  · obtain ⟨k', ⟨t1, hx⟩, dn, dne, hns⟩ := Z
    have old : ∀ b o, hp.get? b = some o → h'.get? b = some o := fun b o e => k' b o (Nat.ne_of_lt (Nat.lt_succ_of_lt (Heap.lt_size e))) (k b o e)
    have z : hp.objs.size + 1 + 1 ≤ dx := by
      have y := dn
      rw [Heap.size_push, Heap.size_push] at y
      exact y
    exact ⟨rfl, hq h' tk' (hp.objs.size + 1) dx ⟨old, Nat.le_succ _, ⟨_, _, hx, rfl, rfl, rfl, rfl⟩, Nat.le_trans (Nat.le_add_right hp.objs.size 2) z, dne, hns⟩⟩
end
end DL
namespace DL
open PySem PySem.Spec PyProof.Rows L2
theorem relO_zip : ∀ {vs : List V} {us : List Value}, Vals vs us → ∀ (fl : List Str) (f : Str), RelO ((fl.zip vs).lookup f) ((fl.zip us).lookup f)
  | _, _, .nil, fl, f => by simp only [List.zip_nil_right]; exact trivial
  | _, _, .cons r t, [], f => by simp only [List.zip_nil_left]; exact trivial
  | _, _, @Paired.cons _ _ _ v u vs us r t, m :: fl, f => by
    rw [List.zip_cons_cons, List.zip_cons_cons]
    by_cases e : f = m
    · subst e
      simp only [List.lookup, beq_self_eq_true]
      exact r
    · have e' : (f == m) = false := by simpa using e
      simp only [List.lookup, e']
      exact relO_zip t fl f
/-- C(e, ..), an error of one's own -/
theorem pmk_sup {X : Cx} {C fI : Addr} {fd : FuncData} {fl : List Str} {k : Nat} {x : Str} {a : Expr} {as : List Expr} {ta : TA} {p pos : Pos} (S : SupC X.K X.prog C fI fd fl) (hr : Room k X.A) (hg : Gl X x) (hm : X.mg x = some (.ref C)) (hms : X.mg "super" = none) (ha : PA X (a :: as) ta) (hdb : (x == ("__debug__" : Str)) = false := by decide)
    (he : starEach (a :: as) X.env = (false, eval a X.env) :: starEach as X.env := by rfl) (hpl : (backTo pos (starEach as X.env)).any (·.1) = false := by rfl) :
    PMk X (.Call (.Name x p) (a :: as) [] pos) (tMkE C fl ta) := by
  intro pins s σ H Q I h
  refine wpAny_Call_Name_kw (ld_glob I hg hm ?_ hdb)
  refine PySem.W.callWith_K (h₀ := X.base) I.ok.mod.kin S.kC (thn (ha.run pos pins s σ H _ I h) fun us s1 hh => ?_) he hpl
  obtain ⟨vs, H1, I1, r1, hlen, q1⟩ := hh
  refine ⟨I1.kIn, ?_⟩
  have hul : us.length = fl.length := by rw [← r1.length]; exact hlen
  have hlim := I1.nolimit
  obtain ⟨mb, hb1, hb2⟩ := I1.mod.blt
  have hgl : s1.heap.Ns mainGlobals X.mg := I1.mod.glob.keeps I1.bk
  have hbl : s1.heap.Ns builtinsNs mb := hb1.keeps I1.bk
  obtain ⟨hp, g, dr, tk, os⟩ := s1
  refine wpAny_call (sup_made S hul I1.kIn hlim hgl hms hbl ((hb2 "super" (by decide)).trans (by decide +kernel)) (by have := hr.dp; omega) fun h' tk' e d M => ?_)
  show MkP X pins σ Q (.ref e) ⟨h', g, dr, tk', os⟩
  obtain ⟨oe, fv, hoe, hc, hd, hdat, h1⟩ := M.obj
  have hns : h'.Ns1 d (putsF (fun _ => none) (fl.zip us)) := M.ns
  obtain ⟨G', g1, g2⟩ := restrict h' fun b => decide (b ≠ e)
  have gk : ∀ b, b ≠ e → G'.get? b = h'.get? b := fun b hb => g1 b (decide_eq_true hb)
  have ge : G'.get? e = none := g2 e (by simp)
  have old : ∀ b o, hp.get? b = some o → G'.get? b = some o := fun b o q => (gk b (Nat.ne_of_lt (Nat.lt_of_lt_of_le (Heap.lt_size q) M.new))).trans (M.keep b o q)
  have ob : ObjOk X.prog X.w (upd H1 d (.xd (fl.zip vs))) G' d (.xd (fl.zip vs)) :=
    ⟨_, hns.at (fun o q => (gk d M.dne).trans q), fun f => by
      have nd : ((fl.zip us).map (·.1)).Nodup := by
        rw [List.map_fst_zip (by omega)]
        exact (List.nodup_cons.mp S.nd).2
      rw [putsF_get _ _ nd]
      have := relO_zip r1 fl f
      cases z : (fl.zip us).lookup f with
      | none => rw [z] at this; exact this
      | some u => rw [z] at this; exact this⟩
  have J : Inv X pins σ (upd H1 d (.xd (fl.zip vs))) ⟨G', g, dr, tk', os⟩ := I1.laid (t' := tk') old M.dbig ob
  refine ⟨e, oe, fv, ⟨G', g, dr, tk', os⟩, _, .ref C, some d, rfl, J, fun b o q => ?_, ge, hoe, ⟨hc, hd⟩, hdat, h1, ?_, rfl, I1.bare, raises_own S.exC S.tyC, q1 d (I1.hok.fresh M.dbig)⟩
  · by_cases hb : b = e
    · have q' : G'.get? b = some o := q
      rw [hb, ge] at q'; cases q'
    · exact (gk b hb).symm.trans q
  · rw [upd_ne (Ne.symm M.dne)]
    exact I1.hok.fresh M.new
end DL

/-! try .. except T as e, by data -/
namespace DL
open PySem L2
/-- the caught error: its own dict d holds the fields -/
def excA (K : PySem.W.Frag) (nf : Addr → Nat) (d : Addr) (fds : List (Str × D)) : OA nf where
  inv v fp H := fp = [d] ∧ ∃ fs, H d = some (.xd fs) ∧ RelF K nf H fs fds
  frame := by
    rintro v fp H H' ⟨e, fs, h, r⟩ k st
    subst e
    exact ⟨rfl, fs, by rw [k d List.mem_cons_self]; exact h, r.mono st⟩
  trk := by
    rintro v fp H ⟨e, fs, h, r⟩ a m
    subst e
    rw [List.mem_singleton.mp m]
    exact ⟨_, h, fun z => z⟩
  nd := by
    rintro v fp H ⟨e, _⟩
    subst e
    simp
def unSlot {nf : Addr → Nat} (i : Nat) (De : EndsD nf) : EndsD nf := { nx := fun e => De.nx (e.set i .un), rt := De.rt, bk := fun e => De.bk (e.set i .un), ct := fun e => De.ct (e.set i .un) }
/-- what is wished of an error within the try: caught, or wished outside -/
def xcT {nf : Addr → Nat} (K : PySem.W.Frag) (c : Value) (i : Nat) (th : Addr → Addr → Addr → DTS nf) (xcO : XcD nf) (De : EndsD nf) : XcD nf := fun C fds env =>
  ∃ b, PySem.W.exmOne K (.ref C) c = some b ∧ (b = true → i < env.length ∧ ∀ a d, th a C d (unSlot i De) (env.set i (.ow (.ref a) (excA K nf d fds)))) ∧ (b = false → xcO C fds env)
def sTry {nf : Addr → Nat} (K : PySem.W.Frag) (c : Value) (i : Nat) (tb : XcD nf → DTS nf) (th : Addr → Addr → Addr → DTS nf) (xcO : XcD nf) : DTS nf := fun De env => tb (xcT K c i th xcO De) De env
/-- the anchor, and what has changed since the try began -/
@[reducible] def anchAt (AO : Anch) (fp : List Addr) (H : Hp) : Anch := ⟨fun fp' H' => AO.p fp' H' ∧ Ch fp H fp' H', fun p c => ⟨AO.up p.1 c, p.2.trans c⟩⟩
section
variable [AO : Anch] {X : Cx} {nf : Addr → Nat} {x n : Str} {c : Value} {i : Nat} {body suite : List Stmt} {b₀ : Stmt} {np pos pos' : Pos} {tb : XcD nf → DTS nf} {th : Addr → Addr → Addr → DTS nf} {Wout : WX} {xcO : XcD nf}
theorem ds_try (hs : X.stack = X.env :: X.outer) (hf : X.env.frame = some X.env.locals) (hN : X.N.Nodup) (hi : X.N[i]? = some n) (hln : X.env.kindOf n = some .local) (hc : L2.Names X x c) (tk : Takes X Wout) (lk : Link X.K nf Wout xcO)
    (hb : ∀ (A : Anch) (W : WX) (xc : XcD nf) (pn : List (Addr × Obj)) (xe : Value → Shared → Prop), Takes (X.tr pn xe) W → PassesOwn (model X.prog X.w) X.A X.env xe → @Link A X.K nf W xc → @DSs A (X.tr pn xe) nf body (tb xc))
    (hsu : ∀ (a : Addr) (oe : Obj) (C d : Addr) (pn : List (Addr × Obj)), Zc (.ref C) (some d) oe → (∃ vs, oe.data = .fields vs) → DSs (X.suite a ((a, oe) :: pn)) nf (b₀ :: suite) (th a C d)) :
    DS X nf (.Try body [.ExceptHandler (some (.Name x np)) (some n) (b₀ :: suite) pos'] [] [] pos) (sTry X.K c i tb th xcO) := by
  let ts : Addr → Value → Option Addr → TS := fun a cls d D σ H => ∃ C dd, cls = .ref C ∧ d = some dd ∧ liftS X.K nf (th a C dd) D σ H
  let tbW : WX → TS := fun W D σ H => ∃ (A : Anch) (xc : XcD nf), @Link A X.K nf W xc ∧ @liftS A X.K nf (tb xc) D σ H
  refine ps_imp (ps_try_as (ts := ts) (tb := tbW) hs hf hN hi hln hc tk (fun W pn xe t1 po => ⟨fun pins s σ H D I ⟨A, xc, l, q⟩ => (hb A W xc pn xe t1 po l).run pins s σ H D I q⟩)
    (fun a oe cls d pn hz hv => ⟨fun pins s σ H D I ⟨C, dd, e1, e2, q⟩ => by
      subst e1 e2
      exact (hsu a oe C dd pn hz hv).run pins s σ H D I q⟩)) fun D σ H ⟨env, fp, De, R, q, br⟩ => ?_
  refine ⟨anchAt AO fp H, xcT X.K c i th xcO De, @Link.mk (anchAt AO fp H) _ _ _ _ (fun {C d fs fds σ' H' env' fp'} R' hd rf nd z1 z2 => ?_), env, fp, De, ⟨R.1, R.2, Ch.refl⟩, q, ?_⟩
  · obtain ⟨fp1, H1, p1, e1⟩ := z1
    obtain ⟨b, eb, ht, hfl⟩ := z2
    have p1' : AO.p fp1 H1 ∧ Ch fp H fp1 H1 := p1
    have c' : Ch fp H fp' H' := R'.2.2
    have hdn : H d = none := p1'.2.there d e1
    refine ⟨b, eb, fun hbt a ha => ?_, fun hbf => lk.to (fp := fp') ⟨R'.1, R'.2.1⟩ hd rf nd ⟨fp1, H1, p1'.1, e1⟩ (hfl hbf)⟩
    obtain ⟨hil, hth⟩ := ht hbt
    obtain ⟨fp2, R2, sub⟩ := R'.1.put (i := i) (v := .ref a) (s := .ow (.ref a) (excA X.K nf d fds)) (fi := [d]) hil ⟨rfl, rfl, fs, hd, rf⟩ (fun z m y => nd (by rw [List.mem_singleton.mp m] at y; exact y))
    have c2 : Ch fp H fp2 H' := ⟨c'.keep, fun z m => by
      rcases sub z m with y | y
      · rw [List.mem_singleton.mp y]; exact .inr hdn
      · exact c'.sub z y, c'.there⟩
    refine ⟨C, d, rfl, rfl, _, fp2, unSlot i De, ⟨R2, Anch.up R.2 c2⟩, hth a d, ?_⟩
    refine ⟨fun σ3 H3 env3 fp3 R3 c3 q3 => ?_, fun v dd σ3 H3 env3 fp3 r3 R3 c3 q3 => br.rt v dd σ3 H3 env3 fp3 r3 R3 (c2.trans c3) q3, fun σ3 H3 env3 fp3 R3 c3 q3 => ?_, fun σ3 H3 env3 fp3 R3 c3 q3 => ?_, fun _ _ _ _ _ _ _ _ _ _ _ q3 => q3.elim⟩
    · obtain ⟨fp4, R4, c4⟩ := R3.forget none i
      exact br.nx _ H3 _ fp4 R4 ((c2.trans c3).trans c4) q3
    · obtain ⟨fp4, R4, c4⟩ := R3.forget none i
      exact br.bk _ H3 _ fp4 R4 ((c2.trans c3).trans c4) q3
    · obtain ⟨fp4, R4, c4⟩ := R3.forget none i
      exact br.ct _ H3 _ fp4 R4 ((c2.trans c3).trans c4) q3
  · exact @Br.mk (anchAt AO fp H) _ _ _ _ _ _ (fun σ3 H3 env3 fp3 R3 c3 q3 => br.nx σ3 H3 env3 fp3 ⟨R3.1, R3.2.1⟩ c3 q3) (fun v dd σ3 H3 env3 fp3 r3 R3 c3 q3 => br.rt v dd σ3 H3 env3 fp3 r3 ⟨R3.1, R3.2.1⟩ c3 q3) (fun σ3 H3 env3 fp3 R3 c3 q3 => br.bk σ3 H3 env3 fp3 ⟨R3.1, R3.2.1⟩ c3 q3) (fun σ3 H3 env3 fp3 R3 c3 q3 => br.ct σ3 H3 env3 fp3 ⟨R3.1, R3.2.1⟩ c3 q3)
      (fun v A σ3 H3 env3 fp3 fi hi R3 n3 c3 q3 => br.ro v A σ3 H3 env3 fp3 fi hi ⟨R3.1, R3.2.1⟩ n3 c3 q3)
end
/-! ### the caught error in its suite -/
/-- what the written part says of an error class whose instances are looked at -/
structure ExI (K : PySem.W.Frag) (C : Addr) : Prop where
  cl : (PySem.W.clsIn K C).isSome = true
  ga : PySem.W.findIn K (.ref C) "__getattribute__" = some (some (.builtin "BaseException.__getattribute__"))
  gg : PySem.W.findIn K (.ref C) "__getattr__" = some none
  ex : PySem.W.subIn K (.ref C) (.type "BaseException") = some true
  hd : PySem.W.hasDictIn K C = true
  ha : PySem.W.findIn K (.ref C) "__class__" = some (some (.builtin "object.__class__"))
  hn : PySem.W.specialIn K (.builtin "object.__class__") "__get__" = some (some (.builtin "getset_descriptor.__get__"))
  htk : PySem.W.takesIn K (.builtin "object.__class__") = some true
  hm : PySem.W.mroIn K C (.type "object") = some true
section
variable [Anch] {X : Cx} {nf : Addr → Nat} {i : Nat} {a C d : Addr} {oe : Obj} {pn : List (Addr × Obj)}
theorem exc_at {pins : List (Addr × Obj)} {σ : St} {H : Hp} {s : Shared} {fs : List (Str × V)} (I : Inv (X.suite a ((a, oe) :: pn)) pins σ H s) (hz : Zc (.ref C) (some d) oe) (hf : ∃ vs, oe.data = .fields vs) (ed : H d = some (.xd fs)) :
    ∃ (od : Obj) (mA : Str → Option Value), PySem.W.InstAt s.heap a oe C (some od) ∧ (∀ f, PySem.W.lookIn f od = some (mA f)) ∧ ∀ f, RelO (fs.lookup f) (mA f) := by
  obtain ⟨ha, _⟩ := I.pin (a, oe) (List.mem_append_left _ List.mem_cons_self)
  obtain ⟨vs, hd⟩ := hf
  have hx : ObjOk X.prog X.w H s.heap d (.xd fs) := I.hok d _ ed
  obtain ⟨mA, hns, hr⟩ := hx
  obtain ⟨od, ho, hl⟩ := lookIn_ns hns
  exact ⟨od, mA, ⟨ha, hz.1, by unfold PySem.W.notCls; rw [hd] <;> rfl, by rw [hz.2]; exact ho⟩, hl, hr⟩
theorem EnvR.excAt {K : PySem.W.Frag} {H : Hp} {σ : St} {env : EV nf} {fp : List Addr} {v : V} {fds : List (Str × D)} (R : EnvR K nf H σ env fp) (e : env[i]? = some (.ow v (excA K nf d fds))) : σ[i]? = some (some v) ∧ ∃ fs, H d = some (.xd fs) ∧ RelF K nf H fs fds := by
  obtain ⟨o, fi, e1, ⟨eo, _, fs, h, r⟩, _, _⟩ := R.at e
  subst eo
  exact ⟨e1, fs, h, r⟩
/-- e.f -/
def dExF (K : PySem.W.Frag) (a C d : Addr) (i : Nat) (f : Str) : DT nf := fun env Q => ExI K C ∧ PySem.W.findIn K (.ref C) f = some none ∧ ∃ fds x, env[i]? = some (.ow (.ref a) (excA K nf d fds)) ∧ fds.lookup f = some x ∧ Q x env
theorem de_exF {e : Expr} {f : Str} {pos : Pos} (hz : Zc (.ref C) (some d) oe) (hf : ∃ vs, oe.data = .fields vs) (he : PE (X.suite a ((a, oe) :: pn)) e (tVar i)) (hb : attributeBase e f X.env (eval e X.env) = eval e X.env := by rfl) : DE (X.suite a ((a, oe) :: pn)) nf (.Attribute e f pos) (dExF X.K a C d i f) := by
  refine ⟨fun pins s σ H Q I h => ?_⟩
  obtain ⟨env, fp, Qd, R, ⟨T, nF, fds, x, e1, e2, q⟩, k⟩ := h
  obtain ⟨es, fs, hd, rf⟩ := R.excAt e1
  refine attr_of hb (thn (he.run pins s σ H (fun v H' => v = .ref a ∧ H' = H) I ⟨_, es, rfl, rfl⟩) fun u s1 hh => ?_)
  obtain ⟨v, H1, I1, rx, rfl, rfl⟩ := hh
  obtain rfl : u = Value.ref a := rx
  obtain ⟨od, mA, J, hl, hr⟩ := exc_at I1 hz hf hd
  obtain ⟨w, ew, rw'⟩ := rf.lookup e2
  obtain ⟨u, hu, ru⟩ := RelO.some_of (v := w) (o := mA f) (by rw [← ew]; exact hr f)
  exact HandSPX.exc_get I1.kIn J T.ga T.gg T.ex (PySem.W.findObj_own T.hd nF rfl (by rw [hl, hu])) (handed_of ru) ⟨w, H1, I1.tok _, ru, k w H1 x env fp rw' R Ch.refl q⟩
/-- isinstance(e, T) -/
def dExIs (K : PySem.W.Frag) (a C d : Addr) (i : Nat) (T : Addr) : DT nf := fun env Q => ExI K C ∧ ∃ fds b, env[i]? = some (.ow (.ref a) (excA K nf d fds)) ∧ PySem.W.kitOne K (.ref C) (.ref T) = some b ∧ Q (.bl b) env
theorem de_exIs {e t : Expr} {T : Addr} {p pos : Pos} (hz : Zc (.ref C) (some d) oe) (hf : ∃ vs, oe.data = .fields vs) (hg : Gl (X.suite a ((a, oe) :: pn)) "isinstance") (hm : X.mg "isinstance" = none) (he : PE (X.suite a ((a, oe) :: pn)) e (tVar i)) (ht : PE (X.suite a ((a, oe) :: pn)) t (tC (.ref T)))
    (hs : starEach [e, t] X.env = (false, eval e X.env) :: starEach [t] X.env := by rfl) (hs2 : starEach [t] X.env = (false, eval t X.env) :: starEach [] X.env := by rfl) (hpl : (backTo pos (starEach [t] X.env)).any (·.1) = false := by rfl) :
    DE (X.suite a ((a, oe) :: pn)) nf (.Call (.Name "isinstance" p) [e, t] [] pos) (dExIs X.K a C d i T) := by
  have cr : CallR (X.suite a ((a, oe) :: pn)) (.builtin "isinstance") (fun xs H Q => ExI X.K C ∧ ∃ fs b, xs = [.ref a, .ref T] ∧ H d = some (.xd fs) ∧ PySem.W.kitOne X.K (.ref C) (.ref T) = some b ∧ Q (.bl b) H) := by
    intro pins s σ H xs us Q I r h
    obtain ⟨E, fs, b, rfl, hd, hk, q⟩ := h
    obtain ⟨u1, u2, rfl, r1, r2⟩ := vals2 r
    obtain rfl : u1 = Value.ref a := r1
    obtain rfl : u2 = Value.ref T := r2
    obtain ⟨od, mA, J, _, _⟩ := exc_at I hz hf hd
    exact PySem.W.kia_one (PySem.W.kitx_exc E.cl E.ga E.gg E.ex E.ha E.hn E.htk E.hm) I.kIn J hk (fun z => nomatch z) fun tk => ⟨.bl b, H, I.tok tk, rfl, q⟩
  refine pe_imp (pe_callB cr hg hm (by decide +kernel) (pa_cons he (pa_cons ht pa_nil hs2) hs) (by decide) (by decide) hs hpl) fun σ H Q h => ?_
  obtain ⟨env, fp, Qd, R, ⟨T', fds, b, e1, hk, q⟩, k⟩ := h
  obtain ⟨es, fs, hd, rf⟩ := R.excAt e1
  exact ⟨_, es, T', fs, b, rfl, hd, hk, k _ H _ env fp (.bl b) R Ch.refl q⟩
end
end DL

/-! errors held as values: made, looked into -/
namespace DL
open PySem PySem.Spec PyProof.Rows L2
/-- what making an error as a value leaves -/
def tMkV (C : Addr) (ms : List Str) (ta : TA) : TE := fun σ H Q => ta σ H fun vs H1 => vs.length = ms.length ∧ ∀ e d oe od, H1 e = none → H1 d = none → d ≠ e → oe.cls = .ref C → oe.dict = some d → (∃ fv, oe.data = .fields fv) →
  Q (.ref e) (upd (upd H1 d (.frz od (.xd (ms.zip vs)))) e (.frz oe (.ext fun _ => True)))
theorem pe_supV {X : Cx} {C fI : Addr} {fd : FuncData} {fl : List Str} {k : Nat} {x : Str} {a : Expr} {as : List Expr} {ta : TA} {p pos : Pos} (S : SupC X.K X.prog C fI fd fl) (hr : Room k X.A) (hg : Gl X x) (hm : X.mg x = some (.ref C)) (hms : X.mg "super" = none) (ha : PA X (a :: as) ta) (hdb : (x == ("__debug__" : Str)) = false := by decide)
    (he : starEach (a :: as) X.env = (false, eval a X.env) :: starEach as X.env := by rfl) (hpl : (backTo pos (starEach as X.env)).any (·.1) = false := by rfl) :
    PE X (.Call (.Name x p) (a :: as) [] pos) (tMkV C fl ta) := by
  refine ⟨fun pins s σ H Q I h => ?_⟩
  refine wpAny_Call_Name_kw (ld_glob I hg hm ?_ hdb)
  refine PySem.W.callWith_K (h₀ := X.base) I.ok.mod.kin S.kC (thn (ha.run pos pins s σ H _ I h) fun us s1 hh => ?_) he hpl
  obtain ⟨vs, H1, I1, r1, hlen, q1⟩ := hh
  refine ⟨I1.kIn, ?_⟩
  have hul : us.length = fl.length := by rw [← r1.length]; exact hlen
  have hlim := I1.nolimit
  obtain ⟨mb, hb1, hb2⟩ := I1.mod.blt
  have hgl : s1.heap.Ns mainGlobals X.mg := I1.mod.glob.keeps I1.bk
  have hbl : s1.heap.Ns builtinsNs mb := hb1.keeps I1.bk
  obtain ⟨hp, g, dr, tk, os⟩ := s1
  refine wpAny_call (sup_made S hul I1.kIn hlim hgl hms hbl ((hb2 "super" (by decide)).trans (by decide +kernel)) (by have := hr.dp; omega) fun h' tk' e d M => ?_)
  obtain ⟨oe, fv, hoe, hc, hd, hdat, h1⟩ := M.obj
  have hns : h'.Ns1 d (putsF (fun _ => none) (fl.zip us)) := M.ns
  obtain ⟨od, es, ep, hod, hrest⟩ := id hns
  have nd0 : H1 d = none := I1.hok.fresh M.dbig
  have ne0 : H1 e = none := I1.hok.fresh M.new
  have ob : ObjOk X.prog X.w (upd H1 d (.frz od (.xd (fl.zip vs)))) h' d (.frz od (.xd (fl.zip vs))) := by
    refine ⟨hod, _, hns, fun f => ?_⟩
    have nd : ((fl.zip us).map (·.1)).Nodup := by
      rw [List.map_fst_zip (by omega)]
      exact (List.nodup_cons.mp S.nd).2
    rw [putsF_get _ _ nd]
    have := relO_zip r1 fl f
    cases z : (fl.zip us).lookup f with
    | none => rw [z] at this; exact this
    | some u => rw [z] at this; exact this
  have e0 : hp.get? e = none := by
    cases q : hp.get? e with
    | none => rfl
    | some o => exact absurd (Heap.lt_size q) (Nat.not_lt.mpr M.new)
  have J : Inv X pins σ (upd H1 d (.frz od (.xd (fl.zip vs)))) ⟨h', g, dr, tk', os⟩ := I1.laid (t' := tk') M.keep M.dbig ob
  obtain ⟨G', g1, g2⟩ := restrict h' fun b => decide (b ≠ e)
  have gk : ∀ b, b ≠ e → G'.get? b = h'.get? b := fun b hb => g1 b (decide_eq_true hb)
  have ge : G'.get? e = none := g2 e (by simp)
  have old : ∀ b o, hp.get? b = some o → G'.get? b = some o := fun b o q => (gk b (Nat.ne_of_lt (Nat.lt_of_lt_of_le (Heap.lt_size q) M.new))).trans (M.keep b o q)
  have ob2 : ObjOk X.prog X.w (upd H1 d (.frz od (.xd (fl.zip vs)))) G' d (.frz od (.xd (fl.zip vs))) := by
    obtain ⟨_, m, hm1, hm2⟩ := ob
    exact ⟨(gk d M.dne).trans hod, m, hm1.at (fun o q => (gk d M.dne).trans q), hm2⟩
  have J2 : Inv X pins σ (upd H1 d (.frz od (.xd (fl.zip vs)))) ⟨G', g, dr, tk', os⟩ := I1.laid (t' := tk') old M.dbig ob2
  have hne : (upd H1 d (.frz od (.xd (fl.zip vs)))) e = none := by rw [upd_ne (Ne.symm M.dne)]; exact ne0
  have J3 : Inv X pins σ (upd (upd H1 d (.frz od (.xd (fl.zip vs)))) e (.frz oe (.ext fun _ => True))) ⟨h', g, dr, tk', os⟩ :=
    J2.laidN (t' := tk') (h' := h') (a := e) (fun b u q => by
      by_cases hb : b = e
      · have q' : G'.get? b = some u := q
        rw [hb, ge] at q'; cases q'
      · exact (gk b hb).symm.trans q) ge hne ⟨hoe, trivial, ⟨oe, hoe⟩, fun _ _ _ _ => trivial⟩
  exact ⟨.ref e, _, J3, rfl, q1 e d oe od ne0 nd0 M.dne hc hd ⟨fv, hdat⟩⟩
/-- X(), an own error class without __init__ -/
theorem pe_excV0 {X : Cx} {C : Addr} {bmB : List Value} {B newId initId : String} {x : Str} {p pos : Pos} (F : ExcBaseFacts B newId initId bmB) (q : PySem.W.excIn X.K C bmB newId = true) (gC : X.mg x = some (.ref C)) (kC : PySem.W.keepIn X.K (.ref C) = true) (hg : Gl X x)
    (hdb : (x == ("__debug__" : Str)) = false := by decide) :
    PE X (.Call (.Name x p) [] [] pos) (fun σ H Q => ∀ a oe, H a = none → oe.cls = .ref C → oe.dict = none → (∃ fv, oe.data = .fields fv) → Q (.ref a) (upd H a (.frz oe (.ext fun _ => True)))) := by
  refine ⟨fun pins s σ H Q I h => ?_⟩
  refine wpAny_Call_Name_kw (ld_glob I hg gC ?_ hdb)
  refine PySem.W.callWith_K0 I.kIn kC ?_
  show wpAny _ _ (call (.ref C) []) _ _ _
  obtain ⟨bm, N, nm, qn, bs, hdct, sn, sub, ab, col, dd, k0, k1, k2, k3, k5, mN, hC, hN, hni, T⟩ := exc_obj I.kIn q
  refine wpAny_call_exc_subT F T hC hN hni (fun h' a hm => ?_) (by show 0 ≤ sizeLine; omega)
  have hn : H a = none := I.hok.gone hm.new
  obtain ⟨t, ht, _, _⟩ := hm.there
  have ob : ∀ oe, h'.get? a = some oe → ObjOk X.prog X.w (upd H a (.frz oe (.ext fun _ => True))) h' a (.frz oe (.ext fun _ => True)) := fun oe e => ⟨e, trivial, ⟨oe, e⟩, fun _ _ _ _ => trivial⟩
  exact ⟨.ref a, _, I.laidN hm.keeps hm.new hn (ob _ ht), rfl, h a _ hn rfl rfl ⟨_, rfl⟩⟩
end DL
namespace DL
open PySem L2
section
variable [Anch] {X : Cx} {nf : Addr → Nat} {K : PySem.W.Frag}
/-- C(..), an error as a value -/
def dMkV (C : Addr) (ms : List Str) (r : DAs nf) : DT nf := fun env Q => r env fun ds env1 => ds.length = ms.length ∧ Q (.exc C (ms.zip ds)) env1
theorem de_mkV {e : Expr} {es : List Expr} {C : Addr} {ms : List Str} {r : DAs nf} (hm : ∀ {ta : TA}, PA X es ta → PE X e (tMkV C ms ta)) (ha : DA X nf es r) : DE X nf e (dMkV C ms r) :=
  pe_imp (hm ha) fun σ H Q ⟨env, fp, Qd, R, h, k⟩ => ⟨env, fp, _, R, h, fun vs H1 ds env1 fp1 r1 R1 c1 ⟨hl, q1⟩ => ⟨by rw [r1.length, hl], fun e d oe od he hd hde hc hdd hf => by
    have x1 : Xt H1 (upd H1 d (.frz od (.xd (ms.zip vs)))) := Xt.new hd
    have x2 : Xt (upd H1 d (.frz od (.xd (ms.zip vs)))) (upd (upd H1 d (.frz od (.xd (ms.zip vs)))) e (.frz oe (.ext fun _ => True))) := Xt.new (by rw [upd_ne (Ne.symm hde)]; exact he)
    have x := x1.trans x2
    refine k _ _ _ env1 fp1 (.exc (oe := oe) (fs := ms.zip vs) ⟨upd_same, hc, hf, .inr ⟨d, od, hdd, by rw [upd_ne hde]; exact upd_same⟩⟩ ((relF_zip ms r1).mono x.stp)) (R1.ext x) (c1.trans x.ch) q1⟩⟩
def dMkV0 (C : Addr) : DT nf := fun env Q => Q (.exc C []) env
theorem de_mkV0 {e : Expr} {C : Addr} (hm : PE X e (fun σ H Q => ∀ a oe, H a = none → oe.cls = .ref C → oe.dict = none → (∃ fv, oe.data = .fields fv) → Q (.ref a) (upd H a (.frz oe (.ext fun _ => True))))) : DE X nf e (dMkV0 C) :=
  pe_imp hm fun σ H Q ⟨env, fp, Qd, R, h, k⟩ => fun a oe ha hc hd hf => by
    have x : Xt H (upd H a (.frz oe (.ext fun _ => True))) := Xt.new ha
    exact k _ _ _ env fp (.exc (oe := oe) (fs := []) ⟨upd_same, hc, hf, .inl ⟨hd, rfl⟩⟩ .nil) (R.ext x) x.ch h
theorem excV_at {pins : List (Addr × Obj)} {σ : St} {H : Hp} {s : Shared} {a C : Addr} {oe : Obj} {fs : List (Str × V)} (I : Inv X pins σ H s) (h : ExcV H a C oe fs) :
    ∃ (od : Option Obj) (mA : Str → Option Value), PySem.W.InstAt s.heap a oe C od ∧ (∀ o, od = some o → ∀ f, PySem.W.lookIn f o = some (mA f)) ∧ (od = none → fs = []) ∧ ∀ f, RelO (fs.lookup f) (mA f) := by
  obtain ⟨ha, hc, ⟨vs, hd⟩, hf⟩ := h
  obtain ⟨e1, _⟩ := I.hok a _ ha
  have nc : PySem.W.notCls oe = true := by unfold PySem.W.notCls; rw [hd] <;> rfl
  rcases hf with ⟨h1, rfl⟩ | ⟨dx, od, h1, h2⟩
  · exact ⟨none, fun _ => none, ⟨e1, hc, nc, by rw [h1]; exact trivial⟩, (fun _ e => nomatch e), (fun _ => rfl), fun _ => trivial⟩
  · obtain ⟨e2, mA, hns, hr⟩ := I.hok dx _ h2
    obtain ⟨od', ho, hl⟩ := lookIn_ns hns
    exact ⟨some od', mA, ⟨e1, hc, nc, by rw [h1]; exact ho⟩, (fun o e => by cases e; exact hl), (fun e => nomatch e), hr⟩
/-- e.f of an error held as a value -/
def dExG (K : PySem.W.Frag) (f : Str) (da : DT nf) : DT nf := fun env Q => da env fun x env1 => ∃ C fds z, x = .exc C fds ∧ ExI K C ∧ PySem.W.findIn K (.ref C) f = some none ∧ fds.lookup f = some z ∧ Q z env1
theorem de_exG {e : Expr} {f : Str} {pos : Pos} {da : DT nf} (he : DE X nf e da) (hb : attributeBase e f X.env (eval e X.env) = eval e X.env := by rfl) : DE X nf (.Attribute e f pos) (dExG X.K f da) := by
  refine ⟨fun pins s σ H Q I h => ?_⟩
  obtain ⟨env, fp, Qd, R, h, k⟩ := h
  refine attr_of hb (thn (he.run pins s σ H _ I ⟨env, fp, _, R, h, fun v H' d env' fp' r R' c q => (⟨d, env', fp', r, R', c, q⟩ : ∃ d env' fp', Rel X.K nf H' v d ∧ EnvR X.K nf H' σ env' fp' ∧ Ch fp H fp' H' ∧ ∃ C fds z, d = .exc C fds ∧ ExI X.K C ∧ PySem.W.findIn X.K (.ref C) f = some none ∧ fds.lookup f = some z ∧ Qd z env')⟩) fun u s1 hh => ?_)
  obtain ⟨v, H1, I1, rx, d, env1, fp1, r1, R1, c1, C, fds, z, rfl, T, nF, hz, q⟩ := hh
  cases r1 with
  | @exc a _ oe fs _ hx rf =>
    obtain rfl : u = Value.ref a := rx
    obtain ⟨od, mA, J, hl, hn, hr⟩ := excV_at I1 hx
    obtain ⟨w, ew, rw'⟩ := rf.lookup hz
    obtain ⟨u, hu, ru⟩ := RelO.some_of (v := w) (o := mA f) (by rw [← ew]; exact hr f)
    cases od with
    | none => rw [hn rfl] at ew; cases ew
    | some od => exact HandSPX.exc_get I1.kIn J T.ga T.gg T.ex (PySem.W.findObj_own T.hd nF rfl (by rw [hl od rfl, hu])) (handed_of ru) ⟨w, H1, I1.tok _, ru, k w H1 z env1 fp1 rw' R1 c1 q⟩
/-- isinstance(e, T), e an error held as a value -/
def isX (K : PySem.W.Frag) : List D → D → Prop := fun ds d => ∃ C fds c u b, ds = [.exc C fds, c] ∧ ExI K C ∧ clsD c = some u ∧ PySem.W.kitOne K (.ref C) u = some b ∧ d = .bl b
def rIsX (K : PySem.W.Frag) : List V → Hp → VK → Prop := fun xs H Q => ∃ a C oe fs t u b, xs = [.ref a, t] ∧ ExcV H a C oe fs ∧ ExI K C ∧ ((∃ n, t = .ty n ∧ u = .type n) ∨ ∃ T, t = .ref T ∧ u = .ref T) ∧ PySem.W.kitOne K (.ref C) u = some b ∧ Q (.bl b) H
theorem call_isX : CallR X (.builtin "isinstance") (rIsX X.K) := by
  intro pins s σ H xs us Q I r h
  obtain ⟨a, C, oe, fs, t, u, b, rfl, hx, E, ht, hk, q⟩ := h
  obtain ⟨u1, u2, rfl, r1, r2⟩ := vals2 r
  obtain rfl : u1 = Value.ref a := r1
  obtain ⟨od, mA, J, _, _⟩ := excV_at I hx
  have e2 : u2 = u := by
    rcases ht with ⟨n, rfl, rfl⟩ | ⟨T, rfl, rfl⟩
    · exact r2
    · exact r2
  subst e2
  exact PySem.W.kia_one (PySem.W.kitx_exc E.cl E.ga E.gg E.ex E.ha E.hn E.htk E.hm) I.kIn J hk (fun z => by rcases ht with ⟨n, h1, h2⟩ | ⟨T, h1, h2⟩ <;> (subst h2; cases z)) fun tk => ⟨.bl b, H, I.tok tk, rfl, q⟩
theorem cd_isX : CbD K nf (rIsX K) (isX K) := by
  rintro H vs ds d r ⟨C, fds, c, u, b, rfl, E, e2, hk, rfl⟩ Q q
  obtain ⟨v, w, rfl, h1, h2⟩ := rels2x r
  cases h1 with
  | @exc a _ oe fs _ hx rf =>
    refine ⟨a, C, oe, fs, w, u, b, rfl, hx, E, ?_, hk, q _ H (.bl _) Xt.refl⟩
    cases h2 <;> simp only [clsD] at e2 <;> cases e2
    · exact .inl ⟨_, rfl, rfl⟩
    · exact .inr ⟨_, rfl, rfl⟩
end
end DL

/-! equal data are equal: lists, tuples, dicts, nested -/
namespace DL
open PySem PySem.SeqAt
open AutoSeq1 (wpAny_loadPart')
open MeetsSeq MeetsSeq2 MeetsSeq3 SeqRoads2
section
variable {P : Program} {W : World}
theorem neLoop (l m : Addr) (xs ys : Array Value) (n k : Nat) (d1 d2 : Option Addr) (z1 z2 : Array (Option Value)) (hz : xs.size = ys.size) (t : Nat) :
    ∀ i : Nat, xs.size - i = t → MeetsIn P W (Builtin.«list.__eq__.loop» ⟨[.ref l, .ref m, rawInt i, rawInt 3], []⟩)
      (fun A R s => s.heap.get? l = some { cls := .type "list", dict := d1, data := .seq xs n, slots := z1 } ∧ s.heap.get? m = some { cls := .type "list", dict := d2, data := .seq ys k, slots := z2 } ∧
        (∀ j (h1 : j < xs.size) (h2 : j < ys.size), EqP P W A.in1 s xs[j] ys[j] true) ∧ R (.ok (.ret (.bool false))) s) := by
  induction t with
  | zero =>
    intro i ht A R s h
    obtain ⟨hp, g, d, tk, os⟩ := s; obtain ⟨hL, hM, he, h⟩ := h
    wp_walk using wpAny_loadPart' hL, wpAny_loadPart' hM
    rw [show xs[((i : Nat) : Int).toNat]? = none by simp; omega, show ys[((i : Nat) : Int).toNat]? = none by simp; omega]
    wp_walk using wpAny_loadPart' hL, wpAny_loadPart' hM
    show R (.ok (.ret (.bool (xs.size != ys.size)))) _
    rw [show (xs.size != ys.size) = false by simp [hz]]
    exact h
  | succ t ih =>
    intro i ht A R s h
    obtain ⟨hp, g, d, tk, os⟩ := s; obtain ⟨hL, hM, he, h⟩ := h
    wp_walk using wpAny_loadPart' hL, wpAny_loadPart' hM
    have l1 : i < xs.size := by omega
    have l2 : i < ys.size := by omega
    rw [show xs[((i : Nat) : Int).toNat]? = some xs[i] by simp [l1], show ys[((i : Nat) : Int).toNat]? = some ys[i] by simp [l2]]
    refine wpAny_bind (he i l1 l2 _ _ ?_)
    wp_walk
    rw [show ((i : Int) + 1) = ((i + 1 : Nat) : Int) by push_cast; rfl]
    refine ⟨plainId_quiet plain_eq_loop _, codeAny_builtin entry_eq_loop ?_⟩
    rw [Around.under_plainId plain_eq_loop _]
    exact ih (i + 1) (by omega) A R _ ⟨hL, hM, he, h⟩
theorem neLists (l m : Addr) (xs ys : Array Value) (n k : Nat) (d1 d2 : Option Addr) (z1 z2 : Array (Option Value)) (hz : xs.size = ys.size) :
    MeetsIn P W (Builtin.«list.__ne__» ⟨[.ref l, .ref m], []⟩)
      (fun A R s => s.heap.get? l = some { cls := .type "list", dict := d1, data := .seq xs n, slots := z1 } ∧ s.heap.get? m = some { cls := .type "list", dict := d2, data := .seq ys k, slots := z2 } ∧
        (∀ j (h1 : j < xs.size) (h2 : j < ys.size), EqP P W A.in1 s xs[j] ys[j] true) ∧ R (.ok (.ret (.bool false))) s) := by
  intro A R s h
  obtain ⟨hp, g, d, tk, os⟩ := s; obtain ⟨hL, hM, he, h⟩ := h
  have f3 := AutoSeq1.sub_list_list
  have nz : ¬ (xs.size != ys.size) = true := by simp [hz]
  wp_walk using wpAny_loadPart' hL, wpAny_loadPart' hM
  refine ⟨plainId_quiet plain_eq_loop _, codeAny_builtin entry_eq_loop ?_⟩
  rw [Around.under_plainId plain_eq_loop _]
  exact neLoop l m xs ys n k d1 d2 z1 z2 hz _ 0 rfl A R _ ⟨hL, hM, he, h⟩
theorem eqTups (l m : Addr) (xs ys : Array Value) (n k : Nat) (d1 d2 : Option Addr) (z1 z2 : Array (Option Value)) (hz : xs.size = ys.size) :
    MeetsIn P W (Builtin.«tuple.__eq__» ⟨[.ref l, .ref m], []⟩)
      (fun A R s => s.heap.get? l = some { cls := .type "tuple", dict := d1, data := .seq xs n, slots := z1 } ∧ s.heap.get? m = some { cls := .type "tuple", dict := d2, data := .seq ys k, slots := z2 } ∧
        (∀ j (h1 : j < xs.size) (h2 : j < ys.size), EqP P W A.in1 s xs[j] ys[j] true) ∧ R (.ok (.ret (.bool true))) s) := by
  intro A R s h
  obtain ⟨hp, g, d, tk, os⟩ := s; obtain ⟨hL, hM, he, h⟩ := h
  have f2 := AutoSeq1.sub_tuple_tuple
  have hZ : (xs.toList.zip ys.toList).length = xs.size := by simp [hz]
  wp_walk using wpAny_loadPart' hL, wpAny_loadPart' hM, wpAny_forIn_list _ (fun rest b s' => b.1 = none ∧ s' = ⟨hp, g, d, tk, os⟩ ∧ ∃ i, rest = (xs.toList.zip ys.toList).drop i) _
  case turn =>
    rintro ⟨y, x⟩ rest b s' ⟨hb', rfl, i, ez⟩
    have lt : i < (xs.toList.zip ys.toList).length := by
      rcases Nat.lt_or_ge i (xs.toList.zip ys.toList).length with h' | h'
      · exact h'
      · rw [List.drop_of_length_le h'] at ez; cases ez
    have l1 : i < xs.size := by omega
    have l2 : i < ys.size := by omega
    rw [List.drop_eq_getElem_cons lt] at ez
    injection ez with e1 e2
    have hy : y = xs[i] := by have := congrArg Prod.fst e1; simpa using this
    have hx : x = ys[i] := by have := congrArg Prod.snd e1; simpa using this
    subst hy hx
    refine wpAny_bind (he i l1 l2 _ _ ?_)
    wp_walk
    exact ⟨rfl, rfl, i + 1, e2⟩
  case fin =>
    rintro ⟨b1, b2⟩ s' ⟨hb', rfl, i, ez⟩
    simp only at hb'
    subst hb'
    wp_walk
    simpa [Builtin.Tuple.tupleCompareSizes, hz] using h
  case h =>
    exact ⟨rfl, rfl, 0, rfl⟩
theorem rcTups {A : Around} {s : Shared} {l m : Addr} {xs ys : Array Value} (hl : s.heap.IsTuple l xs) (hm : s.heap.IsTuple m ys) (hz : xs.size = ys.size) (hu : A.units < cLine)
    (he : ∀ j (h1 : j < xs.size) (h2 : j < ys.size), EqP P W A.in1 s xs[j] ys[j] true) (E Q : Value → Shared → Prop) (h : Q (.bool true) s) : wpAny (model P W) A (richCompare .Eq (.ref l) (.ref m)) Q E s := by
  obtain ⟨⟨c1, d1, t1, z1⟩, o1, e1, n, f1⟩ := id hl
  obtain ⟨⟨c2, d2, t2, z2⟩, o2, e2, k, f2⟩ := id hm
  simp only at e1 f1 e2 f2
  subst e1 f1 e2 f2
  have ta : s.TypeIs (.ref l) "tuple" := ⟨_, o1, rfl⟩
  have tb : s.TypeIs (.ref m) "tuple" := ⟨_, o2, rfl⟩
  exact wpAny_richCompare_same_room (op := .Eq) ta tb F.slot_tuple_eq (call_meetsIn F.slot_tuple_eq ta F.entry_tuple_eq (F.args_tuple_eq_2 _ _) (eqTups l m xs ys n k d1 d2 z1 z2 hz)
    ⟨o1, o2, he, show Value.bool true ≠ Value.notImplemented ∧ Q (.bool true) s from ⟨(fun x => nomatch x), h⟩⟩) hu
theorem rcNeLists {A : Around} {s : Shared} {l m : Addr} {xs ys : Array Value} (hl : s.heap.IsList l xs) (hm : s.heap.IsList m ys) (hz : xs.size = ys.size) (hu : A.units < cLine)
    (he : ∀ j (h1 : j < xs.size) (h2 : j < ys.size), EqP P W A.in1 s xs[j] ys[j] true) (E Q : Value → Shared → Prop) (h : Q (.bool false) s) : wpAny (model P W) A (richCompare .NotEq (.ref l) (.ref m)) Q E s := by
  obtain ⟨⟨c1, d1, t1, z1⟩, o1, e1, n, f1⟩ := id hl
  obtain ⟨⟨c2, d2, t2, z2⟩, o2, e2, k, f2⟩ := id hm
  simp only at e1 f1 e2 f2
  subst e1 f1 e2 f2
  have ta : s.TypeIs (.ref l) "list" := ⟨_, o1, rfl⟩
  have tb : s.TypeIs (.ref m) "list" := ⟨_, o2, rfl⟩
  exact wpAny_richCompare_same_room (op := .NotEq) ta tb F.slot_list_ne (call_meetsIn F.slot_list_ne ta F.entry_list_ne (F.args_list_ne_2 _ _) (neLists l m xs ys n k d1 d2 z1 z2 hz)
    ⟨o1, o2, he, show Value.bool false ≠ Value.notImplemented ∧ Q (.bool false) s from ⟨(fun x => nomatch x), h⟩⟩) hu
end
end DL
namespace DL
open PySem L2
/-- plain data, nested less than n deep -/
def eqOk : Nat → D → Bool
  | 0, _ => false
  | n + 1, d => match d with
    | .non => true
    | .bl _ => true
    | .int _ => true
    | .str _ => true
    | .lst xs => xs.all (eqOk n)
    | .tup xs => xs.all (eqOk n)
    | .dct kvs => kvs.all (fun p => eqOk n p.2) && decide ((kvs.map (·.1)).Nodup)
    | _ => false
section
variable {X : Cx} {nf : Addr → Nat} {pins : List (Addr × Obj)} {σ : St} {H : Hp} {s : Shared} {K : PySem.W.Frag}
/-- the same data -/
def SameD (K : PySem.W.Frag) (nf : Addr → Nat) (H : Hp) (n : Nat) (x y : V) : Prop := ∃ d, eqOk n d = true ∧ Rel K nf H x d ∧ Rel K nf H y d
theorem sames {n : Nat} : ∀ {ds : List D} {vs ws : List V}, ds.all (eqOk n) = true → Rels K nf H vs ds → Rels K nf H ws ds → Paired (SameD K nf H n) vs ws
  | _, _, _, _, .nil, .nil => .nil
  | d :: ds, _, _, h, .cons a b, .cons a' b' => by
    rw [List.all_cons, Bool.and_eq_true] at h
    exact .cons ⟨d, h.1, a, a'⟩ (sames h.2 b b')
theorem RelK.memD : ∀ {kvs : List (Key × V)} {kds : List (Key × D)} {p : Key × V}, RelK K nf H kvs kds → p ∈ kvs → ∃ d, (p.1, d) ∈ kds ∧ Rel K nf H p.2 d
  | _, _, _, .nil, m => by cases m
  | _, _, _, .cons h r, m => by
    rcases List.mem_cons.mp m with e | m
    · subst e; exact ⟨_, List.mem_cons_self, h⟩
    · obtain ⟨d, m', h'⟩ := RelK.memD r m
      exact ⟨d, List.mem_cons_of_mem _ m', h'⟩
theorem sameK {n : Nat} {kds : List (Key × D)} {ks ls : List (Key × V)} (h : (kds.all (fun p => eqOk n p.2) && decide ((kds.map (·.1)).Nodup)) = true) (a : RelK K nf H ks kds) (b : RelK K nf H ls kds) : ∀ p ∈ ks, ∃ u, valV ls p.1 = some u ∧ SameD K nf H n p.2 u := by
  rw [Bool.and_eq_true] at h
  intro p hp
  obtain ⟨d, m, r⟩ := RelK.memD a hp
  obtain ⟨u, e, r2⟩ := b.val (valD_of (of_decide_eq_true h.2) m)
  exact ⟨u, e, d, List.all_eq_true.mp h.1 _ m, r, r2⟩
theorem eqD_run (I : Inv X pins σ H s) : ∀ (n : Nat) (A : Around), A.units + n < cLine → ∀ (x y : V) (v u : Value), SameD X.K nf H n x y → RelV x v → RelV y u → SeqAt.EqP X.prog X.w A s v u true
  | 0, _, _, _, _, _, _, ⟨_, h, _⟩, _, _ => by cases h
  | n + 1, A, hu, x, y, v, u, ⟨d, h, r1, r2⟩, rx, ry => by
    have ih := eqD_run I n A.in1 (by show A.units + 1 + n < cLine; omega)
    have flat : x = y → flatB x = true → SeqAt.EqP X.prog X.w A s v u true := fun e f => by subst e; exact (eqAt_same rx ry f).eqP
    cases d with
    | non => cases r1; cases r2; exact flat rfl rfl
    | bl b => cases r1; cases r2; exact flat rfl rfl
    | int b => cases r1; cases r2; exact flat rfl rfl
    | str b => cases r1; cases r2; exact flat rfl rfl
    | lst ds =>
      cases r1 with
      | @lst a vs _ ha ra =>
        cases r2 with
        | @lst b ws _ hb rb =>
          cases (show v = Value.ref a from rx)
          cases (show u = Value.ref b from ry)
          by_cases e : a = b
          · subst e; exact (SeqAt.EqAt.same _).eqP
          · obtain ⟨us, q1, p1, _⟩ := I.list ha.sq
            obtain ⟨zs, q2, p2, _⟩ := I.list hb.sq
            have hp := sames (n := n) h ra rb
            refine SeqAt.eqP_refs e fun E Q hq => SeqAt.rcP_lists (e := fun _ => true) p1.isList p2.isList (by rw [List.size_toArray, List.size_toArray, ← q1.length, ← q2.length]; exact Paired.length hp) (by omega) (fun j h1 h2 => by simpa using items_run ih hp q1 q2 j (by simpa using h1) (by simpa using h2)) E Q ?_
            rw [show ((List.range us.toArray.size).all fun _ => true) = true from List.all_eq_true.mpr fun _ _ => rfl]
            exact hq
    | tup ds =>
      cases r1 with
      | @tup a vs _ ha ra =>
        cases r2 with
        | @tup b ws _ hb rb =>
          cases (show v = Value.ref a from rx)
          cases (show u = Value.ref b from ry)
          by_cases e : a = b
          · subst e; exact (SeqAt.EqAt.same _).eqP
          · obtain ⟨us, q1, p1, _⟩ := I.tuple ha
            obtain ⟨zs, q2, p2, _⟩ := I.tuple hb
            have hp := sames (n := n) h ra rb
            exact SeqAt.eqP_refs e fun E Q hq => rcTups p1 p2 (by rw [List.size_toArray, List.size_toArray, ← q1.length, ← q2.length]; exact Paired.length hp) (by omega) (fun j h1 h2 => by simpa using items_run ih hp q1 q2 j (by simpa using h1) (by simpa using h2)) E Q hq
    | dct kds =>
      cases r1 with
      | @dct a oa ks _ ha ra =>
        cases r2 with
        | @dct b ob ls _ hb rb =>
          cases (show v = Value.ref a from rx)
          cases (show u = Value.ref b from ry)
          by_cases e : a = b
          · subst e; exact (SeqAt.EqAt.same _).eqP
          · obtain ⟨_, _, ya, va, ka, da⟩ := I.hok a _ ha
            obtain ⟨_, _, yb, vb, kb, db⟩ := I.hok b _ hb
            refine SeqAt.eqP_refs e fun E Q hq => PySem.W.rcP_dicts (knd := mixKind X.prog X.w) (r := true) ya yb da db (by omega) (fun _ => hits_run ih kb ka (sameK (n := n) h ra rb)) E Q ?_
            have el : va.length = vb.length := by rw [← ka.length, ← kb.length, ra.length, rb.length]
            rw [show (va.length == vb.length && true) = true by rw [el]; simp]
            exact hq
    | ty _ => cases h
    | cls _ => cases h
    | obj _ _ => cases h
    | scr _ => cases h
    | exc _ _ => cases h
end
section
variable [Anch] {X : Cx} {nf : Addr → Nat} {K : PySem.W.Frag}
/-- x != y, two lists of equal plain data -/
def rNeS (K : PySem.W.Frag) (nf : Addr → Nat) : R2 := fun x y H Q => ∃ ds, eqOk 60 (.lst ds) = true ∧ Rel K nf H x (.lst ds) ∧ Rel K nf H y (.lst ds) ∧ Q (.bl false) H
theorem op_neS (hu : X.A.units + 64 < cLine) : OpR X (compareOp .NotEq) (rNeS X.K nf) := by
  intro pins s σ H x y v u Q I rx ry h
  obtain ⟨ds, h, r1, r2, q⟩ := h
  cases r1 with
  | @lst a vs _ ha ra =>
    cases r2 with
    | @lst b ws _ hb rb =>
      cases (show v = Value.ref a from rx)
      cases (show u = Value.ref b from ry)
      obtain ⟨us, q1, p1, _⟩ := I.list ha.sq
      obtain ⟨zs, q2, p2, _⟩ := I.list hb.sq
      have hp := sames (n := 59) h ra rb
      exact rcNeLists p1.isList p2.isList (by rw [List.size_toArray, List.size_toArray, ← q1.length, ← q2.length]; exact Paired.length hp) (by omega)
        (fun j h1 h2 => by simpa using items_run (eqD_run I 59 X.A.in1 (by show X.A.units + 1 + 59 < cLine; omega)) hp q1 q2 j (by simpa using h1) (by simpa using h2)) _ _ ⟨.bl false, H, I, rfl, q⟩
def fNeS : D → D → D → Prop := fun x y z => ∃ ds, x = .lst ds ∧ y = .lst ds ∧ eqOk 60 (.lst ds) = true ∧ z = .bl false
theorem od_neS : OpD K nf (rNeS K nf) fNeS := by
  rintro H v w x y z r1 r2 ⟨ds, rfl, rfl, h, rfl⟩ Q q
  exact ⟨ds, h, r1, r2, q _ H (.bl _) Xt.refl⟩
section
variable {a b : Expr} {pos : Pos} {da db : DT nf}
def dNeS (da db : DT nf) : DT nf := dOp fNeS da db
theorem de_neS (hu : X.A.units + 64 < cLine) (ha : DE X nf a da) (hb : DE X nf b db) : DE X nf (.Compare a [.NotEq] [b] pos) (dNeS da db) := de_cmp (op_neS hu) od_neS ha hb (nomark _)
theorem dc_neS (hu : X.A.units + 64 < cLine) (ha : DE X nf a da) (hb : DE X nf b db) : DC X nf (.Compare a [.NotEq] [b] pos) (dBv (dNeS da db)) := dc_cmp (op_neS hu) od_neS ha hb (nomark _)
end
end
end DL

/-! more at D level: own ==, !=, own operators with a list or a tuple, == of dicts, is of bools, pop of a dict, a slot that is owned or frozen -/
namespace DL
open PySem L2
/-! ### != by an own == -/
section
open PySem.W PySem.Calls PyProof.Rows
variable {prog : Program} {w : World} {A : Around} {E : Value → Shared → Prop} {s : Shared} {K : Frag} {x y C f : Addr} {ox : Obj} {od : Option Obj}
theorem neEntry {Q : Fin → Shared → Prop} (X : K.In s.heap) (I : InstAt s.heap x ox C od) (he : findIn K (.ref C) "__eq__" = some (some (.ref f))) (hf : isFn K (.ref f) = true) (hu : A.units < cLine)
    (hc : wpAny (model prog w) A (call (.ref f) [.ref x, .ref y]) (fun v s' => ∃ b, v = .bool b ∧ Q (.done (.ret (.bool (!b)))) s') E s) :
    wpAny (model prog w) A (Builtin.«object.__ne__» ⟨[.ref x, .ref y], []⟩) Q E s := by
  unfold Builtin.«object.__ne__»
  have e : (slotArgs "__ne__" 1 ⟨[.ref x, .ref y], []⟩ : Sem (Value × List Value)) = pure (.ref x, [.ref y]) := by
    unfold slotArgs
    simp
  rw [e]
  simp only [pure_bind]
  refine wpAny_bind (wpAny_cRoomFor hu ?_)
  refine wpAny_bind (ifBound_K X I he hf (wpAny_mono hc (fun v s' ⟨b, ev, q⟩ => ?_) fun _ _ z => z))
  subst ev
  exact wpAny_bind (wpAny_truthy_bool (wpAny_pure q))
theorem neBound {Q : Option Value → Shared → Prop} {args : List Value} (X : K.In s.heap) (I : InstAt s.heap x ox C od) (hn : findIn K (.ref C) "__ne__" = some (some (.builtin "object.__ne__")))
    (h : wpAny (model prog w) A (call (.builtin "object.__ne__") (.ref x :: args)) (fun v => Q (some v)) E s) : wpAny (model prog w) A (callSpecialIfBound? (.ref x) "__ne__" args) Q E s := by
  unfold callSpecialIfBound? bindSpecialIfBound?
  refine wpAny_holding (wpAny_bind (wpAny_bind (wpAny_bind (I.type.here ((looks_findIn X hn).here ?_)))))
  have last : wpAny (model prog w) A (call (.builtin "object.__ne__") ([.ref x] ++ args) >>= fun v => pure (some v)) Q E s := wpAny_bind (wpAny_mono h (fun _ _ z => wpAny_pure z) fun _ _ z => z)
  refine wpAny_bind (wpAny_askSetting (wpAny_ite ?_))
  split
  · exact wpAny_bind (wpAny_of_eq (F.cmp_object.ne.bind _) (wpAny_pure (by exact last)))
  · exact wpAny_tryCatch (wpAny_bind (wpAny_of_eq (F.cmp_object.ne.bind _) (wpAny_pure (by exact last))))
theorem neOwn_run {oy : Obj} {od2 : Option Obj} {Q : Value → Shared → Prop} (X : K.In s.heap) (I : InstAt s.heap x ox C od) (J : InstAt s.heap y oy C od2) (he : findIn K (.ref C) "__eq__" = some (some (.ref f))) (hf : isFn K (.ref f) = true)
    (hn : findIn K (.ref C) "__ne__" = some (some (.builtin "object.__ne__"))) (hm : mroIn K C (.type "object") = some true) (hu : A.units + 1 < cLine)
    (hc : wpAny (model prog w) A.in1 (call (.ref f) [.ref x, .ref y]) (fun v s' => ∃ b, v = .bool b ∧ Q (.bool (!b)) s') E s) : wpAny (model prog w) A (compareOp .NotEq (.ref x) (.ref y)) Q E s := by
  have one : wpAny (model prog w) A (tryCompare (.ref x) "__ne__" (.ref y)) (fun r s' => ∃ b, r = some (.bool b) ∧ Q (.bool b) s') E s := by
    unfold tryCompare
    refine wpAny_bind (neBound X I hn (wpAny_call (codeAny_call_builtin F.cmp_object.ne.plain F.cmpEntry_ne (check_slot F.cmpKind_ne F.cmpSplit_ne (I.type.andThen (looks_mroIn X hm)) (F.cmpArgs_ne _ _) (neEntry (A := A.in1) X I he hf hu (wpAny_mono hc (fun v s' ⟨b, ev, q⟩ => ?_) fun _ _ z => z))))))
    refine ⟨b, ev, ?_⟩
    exact wpAny_pure ⟨_, rfl, q⟩
  unfold compareOp richCompare
  simp only [oneThing_ref]
  refine wpAny_holding (wpAny_bind (wpAny_cRoomFor (Nat.lt_of_succ_lt hu) ?_))
  rw [cmpInfo_NotEq]
  dsimp only
  refine wpAny_bind (I.type.here (wpAny_bind (J.type.here ?_)))
  rw [show (Value.ref C != Value.ref C) = false from by simp]
  simp only [Bool.false_eq_true, if_false]
  refine wpAny_bind (wpAny_pure ?_)
  simp only [Bool.false_eq_true, if_false]
  refine wpAny_bind (wpAny_mono one (fun r s' ⟨b, er, q⟩ => ?_) fun _ _ z => z)
  subst er
  exact wpAny_pure q
end
section
variable [Anch] {X : Cx} {nf : Addr → Nat} {K : PySem.W.Frag} {CX : CXT} {k : Nat} {f C : Addr} {fd : FuncData} {ps : List Str} {sp : Sp} {E : XK} {op : Operator}
/-- an own class has ==, and no != of its own -/
structure EqC (K : PySem.W.Frag) (C f : Addr) : Prop where
  hs : PySem.W.findIn K (.ref C) "__eq__" = some (some (.ref f))
  hf : PySem.W.isFn K (.ref f) = true
  hn : PySem.W.findIn K (.ref C) "__ne__" = some (some (.builtin "object.__ne__"))
  hm : PySem.W.mroIn K C (.type "object") = some true
  hd : PySem.W.subIn K (.type "dict") (.ref C) = some false
theorem op_eqOwn (F : FnOk X.prog X.w X.K X.mg X.base CX k f fd ps sp) (hr : Room k X.A) (hb : Binds X.K fd ps []) (hx : Passes CX X E) (o : EqC X.K C f) :
    OpR X (compareOp .Eq) (fun x y H Q => (∃ a b dx fs, x = .ref a ∧ y = .ref b ∧ H a = some (.ins C dx fs) ∧ ((∃ dy gs, H b = some (.ins C dy gs)) ∨ ∃ kvs, Rd H b (.dK kvs))) ∧ sp [x, y] H Q E) := by
  intro pins s σ H x y v u Q I rx ry ⟨⟨a, b, dx, fs, ex, ey, ha, hb'⟩, h⟩
  subst ex ey
  cases rx; cases ry
  obtain ⟨m, hF⟩ := I.fr
  obtain ⟨mA, O, _⟩ := ins_get I.hok ha
  obtain ⟨od, J, _⟩ := O.look
  have run := wpAny_mono (run_fn F hr hb .nil hx I (.cons (rv_ref _) (.cons (rv_ref _) .nil)) h) (fun _ _ q => cmpBack_of q) fun _ _ e => e
  unfold compareOp
  rcases hb' with ⟨dy, gs, hb'⟩ | ⟨kvs, hb'⟩
  · obtain ⟨mB, O2, _⟩ := ins_get I.hok hb'
    obtain ⟨od2, J2, _⟩ := O2.look
    exact PySem.W.cmp_K hr.units0 hF I.mod.kin J J2.type (by simp [PySem.W.notFirst]) o.hs o.hf run
  · obtain ⟨_, _, vs, _, dd⟩ := dk_rd I.hok hb'
    obtain ⟨ob, es, ep, h1, h2, _⟩ := id dd
    exact PySem.W.cmp_K hr.units0 hF I.mod.kin J (tb := .type "dict") (h2.1 ▸ (PySem.W.Looks.ld h1).andThen .now) (by simp [PySem.W.notFirst, o.hd]) o.hs o.hf run
theorem op_neOwn (F : FnOk X.prog X.w X.K X.mg X.base CX k f fd ps sp) (hr : Room (k + 1) X.A) (hb : Binds X.K fd ps []) (hx : Passes CX X E) (o : EqC X.K C f) :
    OpR X (compareOp .NotEq) (fun x y H Q => (∃ a b dx dy fs gs, x = .ref a ∧ y = .ref b ∧ H a = some (.ins C dx fs) ∧ H b = some (.ins C dy gs)) ∧ sp [x, y] H (fun v H' => ∃ c, v = .bl c ∧ Q (.bl (!c)) H') E) := by
  intro pins s σ H x y v u Q I rx ry ⟨⟨a, b, dx, dy, fs, gs, ex, ey, ha, hb'⟩, h⟩
  subst ex ey
  cases rx; cases ry
  obtain ⟨mA, O, _⟩ := ins_get I.hok ha
  obtain ⟨od, J, _⟩ := O.look
  obtain ⟨mB, O2, _⟩ := ins_get I.hok hb'
  obtain ⟨od2, J2, _⟩ := O2.look
  have hl : ([Value.ref a, .ref b] ++ []).length = ps.length := F.len _ _ _ _ h
  refine neOwn_run I.kIn J J2 o.hs o.hf o.hn o.hm (by have := hr.un; omega) (wpAny_call (codeAny_mono (F.run X.A.in1 X.stack s H ⟨[.ref a, .ref b], []⟩ ([.ref a, .ref b] ++ []) [.ref a, .ref b] _ E hr.in1 I.env0.in1 (hb s [.ref a, .ref b] I.kIn hl) (.cons (rv_ref _) (.cons (rv_ref _) .nil)) h) fun r s' hq => ?_))
  cases r with
  | error e => exact hx pins σ H s e s' I hq
  | ok fl =>
    cases fl with
    | ret z =>
      obtain ⟨w, H', I', r', c, ew, q⟩ := I.after hq
      subst ew
      cases r'
      exact ⟨c, rfl, .bl (!c), H', I', rfl, q⟩
    | next => exact False.elim hq
    | brk => exact False.elim hq
    | cont => exact False.elim hq
variable {a b : Expr} {pos : Pos} {da db : DT nf} {S : SpD nf}
def eqP (C : Addr) : D → D → Prop := fun x y => isO C x ∧ (isO C y ∨ isDct y)
def neP (C : Addr) : D → D → Prop := fun x y => isO C x ∧ isO C y
theorem eqP_r {H : Hp} {v w : V} {x y : D} {Q : VK} (r1 : Rel K nf H v x) (r2 : Rel K nf H w y) (p : eqP C x y) (h : toSp K nf 2 S [v, w] H Q E) :
    (∃ a b dx fs, v = .ref a ∧ w = .ref b ∧ H a = some (.ins C dx fs) ∧ ((∃ dy gs, H b = some (.ins C dy gs)) ∨ ∃ kvs, Rd H b (.dK kvs))) ∧ toSp K nf 2 S [v, w] H Q E := by
  obtain ⟨⟨fs, e1⟩, ⟨gs, e2⟩ | ⟨gs, e2⟩⟩ := p
  · subst e1 e2
    cases r1 with
    | obj h1 _ _ _ =>
      cases r2 with
      | obj h2 _ _ _ => exact ⟨⟨_, _, _, _, rfl, rfl, h1, .inl ⟨_, _, h2⟩⟩, h⟩
  · subst e1 e2
    cases r1 with
    | obj h1 _ _ _ =>
      cases r2 with
      | dct h2 _ => exact ⟨⟨_, _, _, _, rfl, rfl, h1, .inr ⟨_, .inr ⟨_, h2⟩⟩⟩, h⟩
theorem de_eqOwn (F : FnOk X.prog X.w X.K X.mg X.base CX k f fd ps (toSp X.K nf 2 S)) (hr : Room k X.A) (hb : Binds X.K fd ps []) (hx : Passes CX X E) (o : EqC X.K C f) (ha : DE X nf a da) (hb' : DE X nf b db) :
    DE X nf (.Compare a [.Eq] [b] pos) (dOwnOp false (eqP C) S da db) := pe_imp (pe_cmpR (op_eqOwn F hr hb hx o) ha hb' (nomark _)) (lift_own fun H v w x y Q r1 r2 p h => eqP_r r1 r2 p h)
theorem dc_eqOwn (F : FnOk X.prog X.w X.K X.mg X.base CX k f fd ps (toSp X.K nf 2 S)) (hr : Room k X.A) (hb : Binds X.K fd ps []) (hx : Passes CX X E) (o : EqC X.K C f) (ha : DE X nf a da) (hb' : DE X nf b db) :
    DC X nf (.Compare a [.Eq] [b] pos) (dBv (dOwnOp false (eqP C) S da db)) := pt_imp (pt_cmpB (op_eqOwn F hr hb hx o) ha hb' (nomark _)) (lift_B2 (lift_own fun H v w x y Q r1 r2 p h => eqP_r r1 r2 p h))
theorem lift_neOwn (σ : St) (H : Hp) (Q : VK) (h : lift K nf (dNotV (dOwnOp false (neP C) S da db)) σ H Q) :
    tOp (fun x y H Q => (∃ a b dx dy fs gs, x = .ref a ∧ y = .ref b ∧ H a = some (.ins C dx fs) ∧ H b = some (.ins C dy gs)) ∧ toSp K nf 2 S [x, y] H (fun v H' => ∃ c, v = .bl c ∧ Q (.bl (!c)) H') E) (lift K nf da) (lift K nf db) σ H Q := by
  obtain ⟨env, fp, Qd, R, h, k⟩ := h
  have h' : lift K nf (dOwnOp false (neP C) S da db) σ H (fun v H' => ∃ c, v = .bl c ∧ Q (.bl (!c)) H') := ⟨env, fp, _, R, h, fun v H' d env' fp' r R' c ⟨b, eb, q⟩ => by
    subst eb
    exact ⟨b, rel_bl r, k _ H' _ env' fp' (.bl _) R' c q⟩⟩
  exact lift_own (E := E) (r := fun x y H Q => (∃ a b dx dy fs gs, x = .ref a ∧ y = .ref b ∧ H a = some (.ins C dx fs) ∧ H b = some (.ins C dy gs)) ∧ toSp K nf 2 S [x, y] H Q E) (fun H v w x y Q r1 r2 ⟨⟨fs, e1⟩, ⟨gs, e2⟩⟩ h => by
    subst e1 e2
    cases r1 with
    | obj h1 _ _ _ =>
      cases r2 with
      | obj h2 _ _ _ => exact ⟨⟨_, _, _, _, _, _, rfl, rfl, h1, h2⟩, h⟩) σ H _ h'
theorem de_neOwn (F : FnOk X.prog X.w X.K X.mg X.base CX k f fd ps (toSp X.K nf 2 S)) (hr : Room (k + 1) X.A) (hb : Binds X.K fd ps []) (hx : Passes CX X E) (o : EqC X.K C f) (ha : DE X nf a da) (hb' : DE X nf b db) :
    DE X nf (.Compare a [.NotEq] [b] pos) (dNotV (dOwnOp false (neP C) S da db)) := pe_imp (pe_cmpR (op_neOwn F hr hb hx o) ha hb' (nomark _)) lift_neOwn
theorem dc_neOwn (F : FnOk X.prog X.w X.K X.mg X.base CX k f fd ps (toSp X.K nf 2 S)) (hr : Room (k + 1) X.A) (hb : Binds X.K fd ps []) (hx : Passes CX X E) (o : EqC X.K C f) (ha : DE X nf a da) (hb' : DE X nf b db) :
    DC X nf (.Compare a [.NotEq] [b] pos) (dBv (dNotV (dOwnOp false (neP C) S da db))) := pt_imp (pt_cmpB (op_neOwn F hr hb hx o) ha hb' (nomark _)) (lift_B2 lift_neOwn)
end
end DL

namespace DL
open PySem L2
section
variable [Anch] {X : Cx} {nf : Addr → Nat} {K : PySem.W.Frag} {CX : CXT} {k : Nat} {f C : Addr} {fd : FuncData} {ps : List Str} {sp : Sp} {E : XK} {op : Operator}
/-! ### own operator, a list or a tuple at the right -/
theorem op_ownS (F : FnOk X.prog X.w X.K X.mg X.base CX k f fd ps sp) (hr : Room k X.A) (hb : Binds X.K fd ps []) (hx : Passes CX X E) {r1 f1 o1 r2 f2 o2 : Option Value} (o : OpC X.K C op.info.2 f) (t1 : OpT X.K C op.info.2 "list" r1 f1 o1) (t2 : OpT X.K C op.info.2 "tuple" r2 f2 o2) :
    OpR X (binaryOp op) (fun x y H Q => (∃ a b dx fs, x = .ref a ∧ y = .ref b ∧ H a = some (.ins C dx fs) ∧ (TyX X.K H y (.type "list") ∨ TyX X.K H y (.type "tuple"))) ∧ sp [x, y] H Q E) := by
  intro pins s σ H x y v u Q I rx ry ⟨⟨a, b, dx, fs, ex, ey, ha, hb'⟩, h⟩
  subst ex ey
  cases rx; cases ry
  obtain ⟨m, hF⟩ := I.fr
  obtain ⟨mA, O, _⟩ := ins_get I.hok ha
  obtain ⟨od, J, _⟩ := O.look
  have run := wpAny_mono (run_fn F hr hb .nil hx I (.cons (rv_ref _) (.cons (rv_ref _) .nil)) h) (fun _ _ q => cmpBack_of q) fun _ _ e => e
  rcases hb' with ty | ty
  · obtain ⟨P, kx, hP, _⟩ := L2.kit_of I (rv_ref b) ty
    exact binT_looks hF I.mod.kin J (T := "list") (kx.ty _ _ I.kIn hP) o.sf o.hs o.hf t1.hr t1.hp t1.h1 t1.h2 t1.hsub run
  · obtain ⟨P, kx, hP, _⟩ := L2.kit_of I (rv_ref b) ty
    exact binT_looks hF I.mod.kin J (T := "tuple") (kx.ty _ _ I.kIn hP) o.sf o.hs o.hf t2.hr t2.hp t2.h1 t2.h2 t2.hsub run
def isSq (d : D) : Prop := ∃ xs, d = .lst xs ∨ d = .tup xs
variable {a b : Expr} {pos : Pos} {da db : DT nf} {S : SpD nf} {i : Nat}
theorem de_ownS (F : FnOk X.prog X.w X.K X.mg X.base CX k f fd ps (toSp X.K nf 2 S)) (hr : Room k X.A) (hb : Binds X.K fd ps []) (hx : Passes CX X E) {r1 f1 o1 r2 f2 o2 : Option Value} (o : OpC X.K C op.info.2 f) (t1 : OpT X.K C op.info.2 "list" r1 f1 o1) (t2 : OpT X.K C op.info.2 "tuple" r2 f2 o2)
    (ha : DE X nf a da) (hb' : DE X nf b db) : DE X nf (.BinOp a op b pos) (dOwnOp false (fun x y => isO C x ∧ isSq y) S da db) := pe_imp (pe_op (op_ownS F hr hb hx o t1 t2) ha hb') (lift_own fun H v w x y Q r1 r2 ⟨⟨fs, e1⟩, ⟨xs, e2⟩⟩ h => by
  subst e1
  cases r1 with
  | obj h1 _ _ _ =>
    rcases e2 with e2 | e2
    · subst e2
      have ty := ty_of (t := .type "list") (fun C fs z => by cases z) r2 rfl
      cases r2 with
      | lst h2 _ => exact ⟨⟨_, _, _, _, rfl, rfl, h1, .inl ty⟩, h⟩
    · subst e2
      have ty := ty_of (t := .type "tuple") (fun C fs z => by cases z) r2 rfl
      cases r2 with
      | tup h2 _ => exact ⟨⟨_, _, _, _, rfl, rfl, h1, .inr ty⟩, h⟩)
/-! ### == of dicts with flat values -/
def hitV (ls : List (Key × V)) (p : Key × V) : Bool := match valV ls p.1 with | none => false | some u => eqV p.2 u
theorem valV_mem : ∀ {ls : List (Key × V)} {k : Key} {u : V}, valV ls k = some u → ∃ p ∈ ls, p.2 = u
  | [], k, u, h => by cases h
  | p :: ls, k, u, h => by
    by_cases e : p.1 = k
    · rw [valV_pos e] at h; cases h; exact ⟨p, List.mem_cons_self, rfl⟩
    · rw [valV_neg e] at h
      obtain ⟨q, m, z⟩ := valV_mem h
      exact ⟨q, List.mem_cons_of_mem _ m, z⟩
theorem hits_gen {A : Around} {s : Shared} {ls : List (Key × V)} {vb : List (Key × Value)} (rb : KV ls vb) (fl : ∀ p ∈ ls, flatV p.2 = true) {ks : List (Key × V)} {va : List (Key × Value)} (ra : KV ks va) :
    (∀ p ∈ ks, flatV p.2 = true) → PySem.W.KeqHits A s vb va (ks.all (hitV ls)) := by
  unfold KV at ra
  induction ra with
  | nil => intro _; exact .nil
  | @cons p q ps qs h t ih =>
    intro hp
    obtain ⟨h1, h2⟩ := h
    obtain ⟨k, v⟩ := q
    have h1' : p.1 = k := h1
    have rr := rb.val p.1
    rw [List.all_cons]
    cases e : valV ls p.1 with
    | none =>
      rw [e] at rr
      have e0 : valueAt vb k = none := by rw [← h1']; cases z : valueAt vb p.1 with | none => rfl | some y => rw [z] at rr; exact rr.elim
      rw [show hitV ls p = false by unfold hitV; rw [e]]
      exact .miss e0
    | some u =>
      rw [e] at rr
      obtain ⟨y, hy, ry⟩ := rr.some_of
      rw [h1'] at hy
      obtain ⟨p', m', e'⟩ := valV_mem e
      rw [show hitV ls p = eqV p.2 u by unfold hitV; rw [e]]
      exact .hit hy (eqAt_V h2 ry (hp p List.mem_cons_self) (e' ▸ fl p' m')) (ih fun p' hm => hp p' (List.mem_cons_of_mem _ hm))
def eqDctV (ks ls : List (Key × V)) : Bool := ks.length == ls.length && ks.all (hitV ls)
def rEqDG (neg : Bool) : R2 := fun x y H Q => ∃ a b ks ls, x = .ref a ∧ y = .ref b ∧ Rd H a (.dK ks) ∧ Rd H b (.dK ls) ∧ (∀ p ∈ ks, flatV p.2 = true) ∧ (∀ p ∈ ls, flatV p.2 = true) ∧ Q (.bl (if neg then !eqDctV ks ls else eqDctV ks ls)) H
theorem op_eqDG (hu : X.A.units < cLine) : OpR X (compareOp .Eq) (rEqDG false) := by
  intro pins s σ H x y v u Q I rx ry h
  obtain ⟨a, b, ks, ls, rfl, rfl, ea, eb, f1, f2, q⟩ := h
  obtain rfl : v = Value.ref a := rx
  obtain rfl : u = Value.ref b := ry
  obtain ⟨_, ya, va, ra, da⟩ := dk_rd I.hok ea
  obtain ⟨_, yb, vb, rb, db⟩ := dk_rd I.hok eb
  exact PySem.W.keq_eq (knd := mixKind X.prog X.w) (r := ks.all (hitV ls)) ya yb da db hu (fun _ => hits_gen rb f2 ra f1) (fin_bl I q (by rw [← ra.length, ← rb.length]; rfl))
theorem op_neDG (hu : X.A.units < cLine) : OpR X (compareOp .NotEq) (rEqDG true) := by
  intro pins s σ H x y v u Q I rx ry h
  obtain ⟨a, b, ks, ls, rfl, rfl, ea, eb, f1, f2, q⟩ := h
  obtain rfl : v = Value.ref a := rx
  obtain rfl : u = Value.ref b := ry
  obtain ⟨_, ya, va, ra, da⟩ := dk_rd I.hok ea
  obtain ⟨_, yb, vb, rb, db⟩ := dk_rd I.hok eb
  exact PySem.W.keq_ne (knd := mixKind X.prog X.w) (r := ks.all (hitV ls)) ya yb da db hu (fun _ => hits_gen rb f2 ra f1) (fin_bl I q (by rw [← ra.length, ← rb.length]; rfl))
def eqF (d e : D) : Bool := match flatD d, flatD e with | some v, some u => eqV v u | _, _ => false
def hitD (ls : List (Key × D)) (p : Key × D) : Bool := match valD ls p.1 with | none => false | some e => eqF p.2 e
def eqDctD (ks ls : List (Key × D)) : Bool := ks.length == ls.length && ks.all (hitD ls)
def flatsB (ks : List (Key × D)) : Prop := ∀ p ∈ ks, ∃ v, flatD p.2 = some v
def fEqDG (neg : Bool) : D → D → D → Prop := fun x y z => ∃ ks ls, x = .dct ks ∧ y = .dct ls ∧ flatsB ks ∧ flatsB ls ∧ z = .bl (if neg then !eqDctD ks ls else eqDctD ks ls)
theorem RelK.flats {H : Hp} : ∀ {kvs : List (Key × V)} {ks : List (Key × D)}, RelK K nf H kvs ks → flatsB ks → ∀ p ∈ kvs, flatV p.2 = true
  | _, _, .nil, _, p, m => by cases m
  | _, _, .cons (d := d) h r, f, p, m => by
    rcases List.mem_cons.mp m with e | m
    · obtain ⟨v, ev⟩ := f _ List.mem_cons_self
      subst e
      exact (flat_of h ev).2
    · exact RelK.flats r (fun q hq => f q (List.mem_cons_of_mem _ hq)) p m
theorem all_hit {H : Hp} {lvs : List (Key × V)} {ls : List (Key × D)} (rl : RelK K nf H lvs ls) (fl : flatsB ls) : ∀ {kvs : List (Key × V)} {ks : List (Key × D)}, RelK K nf H kvs ks → flatsB ks → kvs.all (hitV lvs) = ks.all (hitD ls)
  | _, _, .nil, _ => rfl
  | _, _, @RelK.cons _ _ _ k v vs d ds h r, f => by
    rw [List.all_cons, List.all_cons, all_hit rl fl r (fun q hq => f q (List.mem_cons_of_mem _ hq))]
    congr 1
    obtain ⟨v', ev⟩ := f _ List.mem_cons_self
    have ev : flatD d = some v' := ev
    have e1 := (flat_of h ev).1
    unfold hitV hitD
    show (match valV lvs k with | none => false | some u => eqV v u) = (match valD ls k with | none => false | some e => eqF d e)
    cases e : valD ls k with
    | none =>
      have z := rl.val_none (k := k)
      rw [e] at z
      cases q : valV lvs k with
      | none => rfl
      | some u => rw [q] at z; cases z
    | some e' =>
      obtain ⟨u, eu, ru⟩ := rl.val e
      obtain ⟨u', eu'⟩ := fl _ (valD_mem e)
      rw [eu]
      have e2 := (flat_of ru eu').1
      show eqV v u = eqF d e'
      unfold eqF
      rw [ev, show flatD e' = some u' from eu', e1, e2]
theorem od_eqDG {neg : Bool} : OpD K nf (rEqDG neg) (fEqDG neg) := by
  rintro H v w x y z r1 r2 ⟨ks, ls, rfl, rfl, f1, f2, rfl⟩ Q q
  cases r1 with
  | @dct _ _ kvs _ h1 rr1 =>
    cases r2 with
    | @dct _ _ lvs _ h2 rr2 =>
      refine ⟨_, _, _, _, rfl, rfl, .inr ⟨_, h1⟩, .inr ⟨_, h2⟩, rr1.flats f1, rr2.flats f2, ?_⟩
      have e : eqDctV kvs lvs = eqDctD ks ls := by unfold eqDctV eqDctD; rw [rr1.length, rr2.length, all_hit rr2 f2 rr1 f1]
      rw [e]
      exact q _ H (.bl _) Xt.refl
def dEqDG (neg : Bool) (da db : DT nf) : DT nf := dOp (fEqDG neg) da db
theorem de_eqDG (hu : X.A.units + 64 < cLine) (ha : DE X nf a da) (hb : DE X nf b db) : DE X nf (.Compare a [.Eq] [b] pos) (dEqDG false da db) := de_cmp (op_eqDG (by omega)) od_eqDG ha hb (nomark _)
theorem dc_eqDG (hu : X.A.units + 64 < cLine) (ha : DE X nf a da) (hb : DE X nf b db) : DC X nf (.Compare a [.Eq] [b] pos) (dBv (dEqDG false da db)) := dc_cmp (op_eqDG (by omega)) od_eqDG ha hb (nomark _)
theorem de_neDG (hu : X.A.units + 64 < cLine) (ha : DE X nf a da) (hb : DE X nf b db) : DE X nf (.Compare a [.NotEq] [b] pos) (dEqDG true da db) := de_cmp (op_neDG (by omega)) od_eqDG ha hb (nomark _)
theorem dc_neDG (hu : X.A.units + 64 < cLine) (ha : DE X nf a da) (hb : DE X nf b db) : DC X nf (.Compare a [.NotEq] [b] pos) (dBv (dEqDG true da db)) := dc_cmp (op_neDG (by omega)) od_eqDG ha hb (nomark _)
/-! ### is of bools -/
def fIsB (neg : Bool) : D → D → D → Prop := fun x y z => ∃ p q, x = .bl p ∧ y = .bl q ∧ z = .bl (if neg then !decide (p = q) else decide (p = q))
theorem od_isB : OpD K nf rIsB (fIsB false) := by
  rintro H v w x y z r1 r2 ⟨p, q, rfl, rfl, rfl⟩ Q k
  cases r1; cases r2
  exact ⟨p, q, rfl, rfl, k _ H (.bl _) Xt.refl⟩
theorem od_notB : OpD K nf rNotB (fIsB true) := by
  rintro H v w x y z r1 r2 ⟨p, q, rfl, rfl, rfl⟩ Q k
  cases r1; cases r2
  exact ⟨p, q, rfl, rfl, k _ H (.bl _) Xt.refl⟩
def dIsB (neg : Bool) (da db : DT nf) : DT nf := dOp (fIsB neg) da db
theorem de_isB (ha : DE X nf a da) (hb : DE X nf b db) : DE X nf (.Compare a [.Is] [b] pos) (dIsB false da db) := de_cmp op_isBl od_isB ha hb (nomark _)
theorem dc_isB (ha : DE X nf a da) (hb : DE X nf b db) : DC X nf (.Compare a [.Is] [b] pos) (dBv (dIsB false da db)) := dc_cmp op_isBl od_isB ha hb (nomark _)
theorem de_notB (ha : DE X nf a da) (hb : DE X nf b db) : DE X nf (.Compare a [.IsNot] [b] pos) (dIsB true da db) := de_cmp op_notBl od_notB ha hb (nomark _)
theorem dc_notB (ha : DE X nf a da) (hb : DE X nf b db) : DC X nf (.Compare a [.IsNot] [b] pos) (dBv (dIsB true da db)) := dc_cmp op_notBl od_notB ha hb (nomark _)
/-! ### a slot that is owned or frozen already -/
def dVarQ (K : PySem.W.Frag) (i : Nat) : DT nf := fun env Q => (∃ d, env[i]? = some (.fz d) ∧ Q d env) ∨ dVarFD K i env Q
theorem de_varQ {e : Expr} (h : PE X e (tVar i)) : DE X nf e (dVarQ X.K i) := pe_imp (pe_fzO h) fun σ H Q ⟨env, fp, Qd, R, q, k⟩ => by
  rcases q with ⟨d, e1, q⟩ | ⟨v, xs, e1, q⟩
  · obtain ⟨o, fi, eo, ⟨_, v, ev, r⟩, _, _⟩ := R.at e1
    subst ev
    exact ⟨v, eo, .inl (k v H d env fp r R Ch.refl q)⟩
  · obtain ⟨p, vs, ev, es, hp, _, _, f⟩ := R.dctAt e1
    refine ⟨_, es, .inr ⟨p, _, rfl, hp, trivial, fun o => ?_⟩⟩
    obtain ⟨r, fp', R', c⟩ := f o
    exact k _ _ _ _ fp' r R' c q
/-! ### d.pop(k) of the slot's own dict -/
def dropD (kds : List (Key × D)) (k : Key) : List (Key × D) := kds.filter fun kv => decide (kv.1 ≠ k)
theorem RelK.drop {H : Hp} {k : Key} : ∀ {kvs : List (Key × V)} {kds : List (Key × D)}, RelK K nf H kvs kds → RelK K nf H (dropK kvs k) (dropD kds k)
  | _, _, .nil => .nil
  | _, _, @RelK.cons _ _ _ kk v vs d ds h r => by
    unfold dropK dropD
    rw [List.filter_cons, List.filter_cons]
    have ih := RelK.drop (k := k) r
    unfold dropK dropD at ih
    by_cases e : kk = k
    · rw [if_neg (by simp [e]), if_neg (by simp [e])]; exact ih
    · rw [if_pos (by simp [e]), if_pos (by simp [e])]; exact .cons h ih
def dPopV (K : PySem.W.Frag) (i : Nat) (db : DT nf) : DT nf := fun env Q => (∃ v kds, env[i]? = some (.ow v (dctA K nf kds))) ∧ db env fun y env1 => ∃ v kds k d, env1[i]? = some (.ow v (dctA K nf kds)) ∧ keyOf y = some k ∧ valD kds k = some d ∧ Q d (env1.set i (.ow v (dctA K nf (dropD kds k))))
theorem de_popV {o e : Expr} {apos cpos : Pos} (ho : PE X o (tVar i)) (he : DE X nf e db) (hbase : attributeBase o "pop" X.env (eval o X.env) = eval o X.env := by rfl) (hline : (apos.endLine == cpos.line) = true := by rfl)
    (htr : starEach [e] X.env = [(false, eval e X.env)] := by rfl) : DE X nf (.Call (.Attribute o "pop" apos) [e] [] cpos) (dPopV X.K i db) := pe_imp (pe_dpop1 ho he ⟨hbase, by rw [htr]; rfl, hline, by rw [htr]; rfl⟩) fun σ H Q ⟨env, fp, Qd, R, ⟨⟨v0, kds0, e0⟩, h⟩, k⟩ => by
  obtain ⟨p0, kvs0, ev0, es0, hp0, _, _⟩ := R.dctAt e0
  refine ⟨_, es0, p0, rfl, .inl ⟨_, .inl hp0⟩, lift_run R h fun u H1 y env1 fp1 r1 R1 c1 ⟨v, kds, kk, d, e1, ek, ed, q⟩ => ?_⟩
  obtain ⟨p, kvs, ev, es, hp, rr, rep, _⟩ := R1.dctAt e1
  rw [es0] at es
  cases es
  obtain ⟨w, ew, rw'⟩ := rr.val ed
  obtain ⟨fp3, R3, c3⟩ := rep (dropK kvs kk) (dropD kds kk) rr.drop
  exact ⟨kvs, kk, w, hp, key_of r1 ek, ew, k w _ d _ fp3 (rw'.mono (c3.stp R1)) R3 (c1.trans c3) q⟩
end
/-! ### steps -/
section
variable {nf : Addr → Nat} {K : PySem.W.Frag} {De : EndsD nf} {env env' env1 : EV nf} {i j n : Nat} {d x y z : D} {da db dc : DT nf} {Q : D → EV nf → Prop}
theorem dEqDG_s {neg : Bool} (h : dOp (fEqDG neg) da db env Q) : dEqDG neg da db env Q := h
theorem eqDG_s {neg : Bool} {ks ls : List (Key × D)} (f1 : flatsB ks) (f2 : flatsB ls) (h : Q (.bl (if neg then !eqDctD ks ls else eqDctD ks ls)) env) : OpK (fEqDG neg) Q (.dct ks) (.dct ls) env := ⟨_, ⟨ks, ls, rfl, rfl, f1, f2, rfl⟩, h⟩
theorem dIsB_s {neg : Bool} (h : dOp (fIsB neg) da db env Q) : dIsB neg da db env Q := h
theorem isBF_s {p q : Bool} (h : Q (.bl (decide (p = q))) env) : OpK (fIsB false) Q (.bl p) (.bl q) env := ⟨_, ⟨p, q, rfl, rfl, rfl⟩, h⟩
theorem isBT_s {p q : Bool} (h : Q (.bl (!decide (p = q))) env) : OpK (fIsB true) Q (.bl p) (.bl q) env := ⟨_, ⟨p, q, rfl, rfl, rfl⟩, h⟩
theorem dVarQf_s (e : env[i]? = some (.fz d)) (h : Q d env) : dVarQ K i env Q := .inl ⟨d, e, h⟩
theorem dVarQo_s {v : V} {xs : List (Key × D)} (e : env[i]? = some (.ow v (dctA K nf xs))) (e2 : env.set i (.fz (.dct xs)) = env') (h : Q (.dct xs) env') : dVarQ K i env Q := .inr ⟨v, xs, e, e2 ▸ h⟩
def PopK (K : PySem.W.Frag) (i : Nat) (Q : D → EV nf → Prop) : D → EV nf → Prop := fun y env1 => ∃ v kds k d, env1[i]? = some (.ow v (dctA K nf kds)) ∧ keyOf y = some k ∧ valD kds k = some d ∧ Q d (env1.set i (.ow v (dctA K nf (dropD kds k))))
theorem dPopV_s {v : V} {kds : List (Key × D)} (e : env[i]? = some (.ow v (dctA K nf kds))) (h : db env (PopK K i Q)) : dPopV K i db env Q := ⟨⟨v, kds, e⟩, h⟩
theorem popK_s {v : V} {kds : List (Key × D)} {k : Key} (e : env[i]? = some (.ow v (dctA K nf kds))) (ek : keyOf y = some k) (ed : valD kds k = some d) (e2 : env.set i (.ow v (dctA K nf (dropD kds k))) = env') (h : Q d env') : PopK K i Q y env := ⟨v, kds, k, d, e, ek, ed, e2 ▸ h⟩
theorem dc_inv {g : DG nf} {dt : DB nf} {dk dv : DT nf} {js : List Nat} {Q : List (Key × D) → EV nf → Prop} (Iv : List D → List (Key × D) → EV nf → Prop)
    (step : ∀ x xs acc env (R : List (Key × D) → EV nf → Prop), Iv (x :: xs) acc env → (∀ acc' env', Iv xs acc' env' → R acc' env') → g x env fun env1 => dt env1 fun b env2 => if b = true then dk env2 fun y env3 => dv env3 fun d env4 => ∃ k, keyOf y = some k ∧ acc.length < 1000000 ∧ R (putD acc k d) (wipeD env4 js) else R acc (wipeD env2 js))
    (fin : ∀ acc env, Iv [] acc env → Q acc env) : ∀ ds acc env, Iv ds acc env → dCompD g dt dk dv js ds acc env Q
  | [], acc, env, h => fin acc env h
  | x :: xs, acc, env, h => step x xs acc env (fun acc env => dCompD g dt dk dv js xs acc env Q) h fun acc' env' h' => dc_inv Iv step fin xs acc' env' h'
end
end DL

/-! {k: v}, -x, x += n, the script's items; errors made, in one word -/
namespace DL
open PySem L2
section
variable [Anch] {X : Cx} {nf : Addr → Nat} {K : PySem.W.Frag}
variable {a b : Expr} {pos : Pos} {da db : DT nf}
/-- {k: v}, frozen -/
def dD1 (dk dv : DT nf) : DT nf := fun env Q => dk env fun x env1 => dv env1 fun y env2 => ∃ k, keyOf x = some k ∧ Q (.dct [(k, y)]) env2
theorem de_d1 (ha : DE X nf a da) (hb : DE X nf b db) : DE X nf (.Dict [some a] [b] pos) (dD1 da db) := pe_imp (pe_fz (pe_disp (pps_cons ha hb pps_nil) rfl rfl (fun z => by cases z) (show 1 ≤ 15 by decide))) fun σ H Q ⟨env, fp, Qd, R, h, k⟩ p hp => by
  have x0 : Xt H (upd H p (.dK [])) := Xt.new hp
  have nfp : p ∉ fp := fun m => by
    obtain ⟨u, e, _⟩ := R.trk p m
    rw [hp] at e; cases e
  refine lift_run (R.ext x0) h fun v H1 d1 env1 fp1 r1 R1 c1 h1 => ?_
  have nfp1 : p ∉ fp1 := fun m => by
    rcases c1.sub p m with z | z
    · exact nfp z
    · rw [upd_same] at z; cases z
  have hp1 : H1 p = some (.dK []) := c1.keep p _ upd_same nfp
  refine lift_run R1 h1 fun w H2 d2 env2 fp2 r2 R2 c2 ⟨kk, ek, q⟩ => ?_
  have nfp2 : p ∉ fp2 := fun m => by
    rcases c2.sub p m with z | z
    · exact nfp1 z
    · rw [hp1] at z; cases z
  have hp2 : H2 p = some (.dK []) := c2.keep p _ hp1 nfp1
  have ev : v = kV kk := key_of r1 ek
  subst ev
  refine ⟨hp2, [(kk, w)], rfl, show 1 ≤ 15 by decide, p, _, rfl, upd_same, trivial, fun o => ?_⟩
  rw [upd_upd, show mergeK [] [(kk, w)] = [(kk, w)] from rfl]
  have up2 : Stp nf H2 (upd H2 p (.frz o (.dK [(kk, w)]))) := fun b u e f => by
    by_cases hb : b = p
    · subst hb; rw [hp2] at e; cases e; exact f.elim
    · rw [upd_ne hb]; exact e
  have CC : Ch fp H fp2 (upd H2 p (.frz o (.dK [(kk, w)]))) := (((x0.ch.trans c1).trans c2).put hp)
  exact k _ _ _ env2 fp2 (.dct upd_same (.cons (r2.mono up2) .nil)) (R2.frame (fun b m => upd_ne fun z => nfp2 (z ▸ m)) up2 R.2 CC) CC q
def dNeg (da : DT nf) : DT nf := fun env Q => da env fun x env1 => ∃ i, x = .int i ∧ Q (.int (-i)) env1
theorem de_neg (ha : DE X nf a da) : DE X nf (.UnaryOp .USub a pos) (dNeg da) := pe_imp (pe_un un_neg ha) fun σ H Q ⟨env, fp, Qd, R, h, k⟩ => lift_run R h fun v H1 x env1 fp1 r1 R1 c1 ⟨i, e, q⟩ => by
  subst e
  exact ⟨i, rel_int r1, k _ H1 _ env1 fp1 (.int _) R1 c1 q⟩
def sAugI (i : Nat) (da : DT nf) : DTS nf := fun De env => ∃ n, env[i]? = some (.fz (.int n)) ∧ da env fun y env1 => ∃ m, y = .int m ∧ i < env1.length ∧ De.nx (env1.set i (.fz (.int (n + m))))
theorem ds_augI {i : Nat} {x : Str} {pos' : Pos} (hN : X.N.Nodup) (hi : X.N[i]? = some x) (hx : Loc X.env.scope x) (ha : DE X nf a da) (hf : X.fn x = true ∨ X.env.scope.names.lookup x = some .local := by first | exact .inl rfl | exact .inr rfl | assumption) :
    DS X nf (.AugAssign (.Name x pos') .Add a pos) (sAugI i da) := ps_imp (ps_aug hN hi hx ha ip_add hf) fun E σ H ⟨env, fp, De, R, ⟨n, e, q⟩, br⟩ => by
  obtain ⟨o, fi, e1, ⟨_, v, ev, r⟩, _⟩ := R.at e
  subst ev
  have ev := rel_int r
  subst ev
  exact ⟨_, e1, lift_run R q fun w H1 y env1 fp1 r1 R1 c1 ⟨m, ey, hl, q1⟩ => by
    subst ey
    obtain ⟨fp2, R2, c2⟩ := R1.setFz hl (.int (n + m))
    exact ⟨n, m, rfl, rel_int r1, br.nx _ H1 _ fp2 R2 (c1.trans c2) q1⟩⟩
/-! the script: script[i], len(script) -/
def fIxR : D → D → D → Prop := fun x y z => ∃ ns i n, x = .scr ns ∧ y = .int i ∧ atI ns i = some n ∧ z = .int n
theorem atI_map {α β : Type} {f : α → β} {xs : List α} {i : Int} {n : α} (h : atI xs i = some n) : atI (xs.map f) i = some (f n) := by
  unfold atI at h ⊢
  rw [List.length_map]
  cases e : ixN xs.length i with
  | none => rw [e] at h; cases h
  | some j =>
    rw [e] at h
    have h' : xs[j]? = some n := h
    show (xs.map f)[j]? = _
    rw [List.getElem?_map, h']; rfl
theorem od_ixR : OpD K nf (rIxL K) fIxR := by
  rintro H v w x y z r1 r2 ⟨ns, i, n, rfl, rfl, e, rfl⟩ Q q
  cases r1 with
  | scr h => exact ⟨_, _, i, .int n, rfl, rel_int r2, h.sq, atI_map e, q _ H (.int _) Xt.refl⟩
def dIxR (da db : DT nf) : DT nf := dOp fIxR da db
theorem de_ixR (ha : DE X nf a da) (hb : DE X nf b db) (hs : PlainIx b := by exact fun _ _ => rfl) : DE X nf (.Subscript a b pos) (dIxR da db) := de_ix ix_list od_ixR ha hb hs
def fLenR : List D → D → Prop := fun ds d => ∃ ns, ds = [.scr ns] ∧ d = .int ns.length
theorem cd_lenR : CbD K nf (fun xs H Q => ∃ p ys, xs = [.ref p] ∧ (SqL K H p ys ∨ SqT K H p ys) ∧ Q (.int ys.length) H) fLenR := by
  rintro H vs ds d r ⟨ns, rfl, rfl⟩ Q q
  obtain ⟨v, rfl, h⟩ := rels1x r
  cases h with
  | scr h => exact ⟨_, _, rfl, .inl h.sq, by rw [List.length_map]; exact q _ H (.int _) Xt.refl⟩
/-! errors made, in one word -/
def SupE (K : PySem.W.Frag) (prog : Program) (C : Addr) (fl : List Str) : Prop := ∃ fI fd, SupC K prog C fI fd fl
theorem de_mk {C : Addr} {fl : List Str} {k : Nat} {x : Str} {as : List Expr} {r : DAs nf} {p : Pos} (S : SupE X.K X.prog C fl) (hr : Room k X.A) (hg : Gl X x) (hm : X.mg x = some (.ref C)) (hms : X.mg "super" = none) (ha : DA X nf (a :: as) r) (hdb : (x == ("__debug__" : Str)) = false := by decide)
    (he : starEach (a :: as) X.env = (false, eval a X.env) :: starEach as X.env := by rfl) (hpl : (backTo pos (starEach as X.env)).any (·.1) = false := by rfl) : DE X nf (.Call (.Name x p) (a :: as) [] pos) (dMkV C fl r) := by
  obtain ⟨fI, fd, S⟩ := S
  exact de_mkV (fun h => pe_supV S hr hg hm hms h hdb he hpl) ha
def bmVE : List Value := [.type "ValueError", .type "Exception", .type "BaseException", .type "object"]
theorem de_mk0 {C : Addr} {x : Str} {p : Pos} (q : PySem.W.excIn X.K C bmVE "ValueError.__new__" = true) (hm : X.mg x = some (.ref C)) (hk : PySem.W.keepIn X.K (.ref C) = true) (hg : Gl X x) (hdb : (x == ("__debug__" : Str)) = false := by decide) : DE X nf (.Call (.Name x p) [] [] pos) (dMkV0 C) :=
  de_mkV0 (pe_excV0 PySem.F.excBase_ValueError q hm hk hg hdb)
end
end DL

/-! the head by one run: what it is asked of errors; the end -/
namespace DH
open PySem PySem.Spec PyProof.Rows L2 DL
open PySem.W (Frag findIn nsIn keepIn subIn typeIn hasDictIn clsIn mroIn alongIn specialIn takesIn codeIn kitOne)
theorem and2 {a b : Bool} (h : (a && b) = true) : a = true ∧ b = true := Bool.and_eq_true_iff.mp h
/-! ### error classes with an __init__ of their own -/
/-- what the text of the def says -/
structure SupT (prog : Program) (q : SupQ) : Prop where
  body : ∃ msg, SupB msg q.fl (defBody q.st)
  kind : (defScope q.st).kind = .function
  co : (defScope q.st).isCoroutine = false
  gen : (defScope q.st).isGenerator = false
  nocell : ∀ x ∈ (defScope q.st).names, x.2 ≠ .cell
  hks : (defScope q.st).names.lookup ("super" : Str) = some .globalImplicit
  hkc : (defScope q.st).names.lookup ("__class__" : Str) = some .free
  loc : ∀ y ∈ ("self" : Str) :: q.fl, (defScope q.st).names.lookup y = some .local
  par : ∃ ar : Arg, ((defArgs q.st).posonlyargs ++ (defArgs q.st).args).head? = some ar ∧ ar.arg = "self"
  bd : ∀ fd : FuncData, fd.params = defArgs q.st → fd.defaults = .none → ∀ us : List Value, us.length = q.fl.length + 1 → bindArgs fd ⟨us, []⟩ = pure ((("self" : Str) :: q.fl).zip us)
  nd : (("self" : Str) :: q.fl).Nodup
  few : q.fl.length ≤ 100
  ne : q.fl ≠ []
  dbg : ∀ y ∈ ("self" : Str) :: q.fl, (y == ("__debug__" : Str)) = false
  htop : (prog.main.scope.names.lookup ("super" : Str)).isSome = false
theorem shB_ok {K : Frag} {C : Addr} (h : shB K C = true) : (∃ nm q N bs bm sn sub ab col dd k0 k1 k2 k3 k5, K.lookup C = some (excClassObj nm q C N bs bm true sn sub ab col dd k0 k1 k2 k3 k5 "ValueError.__new__") ∧ PySem.HandSPX.refsVE bm = true ∧ alongIn K "__init__" bm = some (some (.builtin "ValueError.__init__"))) ∧ typeIn K (.ref C) = some (.type "type") ∧ hasDictIn K C = true := by
  unfold shB at h
  split at h
  · rename_i t dd cd sl ho
    obtain ⟨h0, h⟩ := and2 h
    split at h
    · rename_i C' bm k0 k1 k2 k3 n k5 hm hs
      obtain ⟨h1, h⟩ := and2 h
      obtain ⟨h2, h⟩ := and2 h
      obtain ⟨h3, h⟩ := and2 h
      obtain ⟨h4, h⟩ := and2 h
      obtain ⟨h5, h6⟩ := and2 h
      have e0 : t = "type" := of_decide_eq_true h0
      have e1 : C' = C := of_decide_eq_true h1
      have e2 : n = "ValueError.__new__" := of_decide_eq_true h2
      subst e0 e1 e2
      obtain ⟨nm, bs, mro, ns, qn, hd, sn, sub, ab, col, del⟩ := cd
      have e3 : del = false := by simpa using h3
      have e4 : hd = true := h4
      have e5 : mro = .ref C' :: bm := hm
      subst e3 e4 e5
      have hsl : sl = #[k0, k1, k2, k3, some (.builtin "ValueError.__new__"), k5] := by
        have := congrArg List.toArray hs
        simpa using this
      subst hsl
      refine ⟨⟨nm, qn, ns, bs, bm, sn, sub, ab, col, dd, k0, k1, k2, k3, k5, ho, h5, He.eqO_ok h6⟩, ?_, ?_⟩
      · show (K.lookup C').map (·.cls) = _
        rw [ho]; rfl
      · unfold hasDictIn clsIn; rw [ho]; rfl
    · cases h
  · cases h
theorem fileB_ok {K : Frag} {prog : Program} {v : Value} (h : fileB K prog.main.file v = true) : ∃ cda ccl cdd vs ccs file tf, v = .ref cda ∧ K.lookup cda = some ⟨ccl, cdd, .fields vs, ccs⟩ ∧ vs[2]? = some (.str file tf) ∧ ((prog.main.file : Str) == file) = true := by
  unfold fileB at h
  split at h
  · rename_i c
    split at h
    · rename_i ccl cdd vs ccs ho
      split at h
      · rename_i z tf hz
        exact ⟨c, ccl, cdd, vs, ccs, z, tf, rfl, ho, hz, h⟩
      · cases h
    · cases h
  · cases h
theorem cellB_ok {K : Frag} {C : Addr} {c : List (Str × Addr)} (h : cellB K C c = true) : ∃ cc cl cld csl, c.lookup ("__class__" : Str) = some cc ∧ K.lookup cc = some ⟨cl, cld, .cell (some (.ref C)), csl⟩ := by
  unfold cellB at h
  split at h
  · rename_i cc hc
    split at h
    · rename_i cl cld C' csl ho
      have e : C' = C := of_decide_eq_true h
      subst e
      exact ⟨cc, cl, cld, csl, hc, ho⟩
    · cases h
  · cases h
theorem supC_of {K : Frag} {prog : Program} {q : SupQ} (T : SupT prog q) (e : supV K q = q.val) (h : supB K prog.main.file q = true) : ∃ fd, SupC K prog (He.ga K q.cls) (initA K q.cls) fd q.fl := by
  unfold supB at h
  obtain ⟨h1, h⟩ := and2 h
  obtain ⟨h2, h⟩ := and2 h
  obtain ⟨h3, h⟩ := and2 h
  obtain ⟨h4, h⟩ := and2 h
  obtain ⟨h5, h⟩ := and2 h
  obtain ⟨h6, h⟩ := and2 h
  obtain ⟨h7, h⟩ := and2 h
  obtain ⟨h8, h⟩ := and2 h
  obtain ⟨h9, h⟩ := and2 h
  obtain ⟨h10, h⟩ := and2 h
  obtain ⟨h11, h12⟩ := and2 h
  obtain ⟨c1, c2, c3⟩ := shB_ok h1
  unfold funB at h12
  unfold supV at e
  split at h12
  · rename_i oc od fd osl ho
    rw [ho] at e
    obtain ⟨f1, h12⟩ := and2 h12
    obtain ⟨f2, h12⟩ := and2 h12
    obtain ⟨f3, h12⟩ := and2 h12
    obtain ⟨f4, h12⟩ := and2 h12
    obtain ⟨f5, f6⟩ := and2 h12
    have e' : (fd.params, fd.body, fd.scope) = (defArgs q.st, FuncBody.stmts (defBody q.st), defScope q.st) := Option.some.inj e
    simp only [Prod.mk.injEq] at e'
    obtain ⟨e1, e2, e3⟩ := e'
    have f3' : fd.defaults = .none := by
      unfold noneB at f3
      split at f3
      · assumption
      · cases f3
    obtain ⟨msg, hB⟩ := T.body
    refine ⟨fd, { cls := c1, sa := He.eqO_ok h2, ga := He.eqO_ok h3, gg := He.eqO_ok h4, noF := fun f hf => He.eqO_ok (List.all_eq_true.mp h5 f hf), iC := He.eqO_ok h6, tI := of_decide_eq_true h7, kC := h8, exC := of_decide_eq_true h9, sv := of_decide_eq_true h10, tyC := c2, hdC := c3, op := He.eqO_ok h11, fn := ⟨oc, od, osl, ho⟩, body := ⟨msg, _, e2, hB⟩, glob := of_decide_eq_true f1, blt := of_decide_eq_true f2, code := f4, cdo := fileB_ok f5, cell := cellB_ok f6, kind := (by rw [e3]; exact T.kind), co := (by rw [e3]; exact T.co), gen := (by rw [e3]; exact T.gen), nocell := (by rw [e3]; exact T.nocell), hks := (by rw [e3]; exact T.hks), hkc := (by rw [e3]; exact T.hkc), loc := (by rw [e3]; exact T.loc), par := (by rw [e1]; exact T.par), bd := fun s us hl => BindsTo.of_eq (T.bd fd e1 f3' us hl), nd := T.nd, few := T.few, ne := T.ne, dbg := T.dbg, htop := T.htop }⟩
  · cases h12
/-! ### error classes that are looked at -/
theorem exi_of {K : Frag} {C : Addr} (h : exiB K C = true) : ExI K C := by
  unfold exiB at h
  obtain ⟨h1, h⟩ := and2 h
  obtain ⟨h2, h⟩ := and2 h
  obtain ⟨h3, h⟩ := and2 h
  obtain ⟨h4, h⟩ := and2 h
  obtain ⟨h5, h⟩ := and2 h
  obtain ⟨h6, h7⟩ := and2 h
  exact ⟨h1, He.eqO_ok h2, He.eqO_ok h3, of_decide_eq_true h4, h5, He.eqO_ok h6, by kernel_rfl, by kernel_rfl, of_decide_eq_true h7⟩
/-! ### which class is which -/
theorem isi_of {K : Frag} {C : Addr} (c : Cls K C) (h : isiB K C = true) : IsiC K C := by
  obtain ⟨h1, h2⟩ := and2 h
  exact ⟨c, He.eqO_ok h1, by kernel_rfl, by kernel_rfl, of_decide_eq_true h2⟩
theorem kit_mro {K : Frag} {C T : Addr} {l : List Value} (h : mroL K C = some (.ref C :: l)) (ht : clsB K T = true) : kitOne K (.ref C) (.ref T) = some ((Value.ref C :: l).contains (.ref T)) := by
  unfold mroL at h
  obtain ⟨cd, hc, hm⟩ := Option.map_eq_some_iff.mp h
  unfold clsB at ht
  obtain ⟨h1, h2⟩ := and2 ht
  unfold kitOne
  by_cases e : C = T
  · subst e
    rw [if_pos (beq_self_eq_true _)]
    simp
  · rw [if_neg (by simpa using e)]
    unfold PySem.W.kitCls
    show (if ((clsIn K T).isSome && typeIn K (.ref T) == some (.type "type")) = true then subIn K (.ref C) (.ref T) else none) = _
    rw [if_pos (by rw [h1, h2]; rfl)]
    show mroIn K C (.ref T) = _
    unfold mroIn
    rw [hc, Option.bind_some, hm]
    simp
/-! ### the Hook -/
section
variable {q : Ask} {K : Frag}
theorem says_b (c : obsK q K = valA q) : (q.fa.all fun f => f.ok K) = true ∧ (q.fn.all fun d => d.ok K) = true ∧ (q.sup.all fun d => supB K q.file d) = true ∧ q.ex K = true := by
  obtain ⟨h1, h⟩ := and2 (congrArg (fun z : Al => z.1) c)
  obtain ⟨h2, h⟩ := and2 h
  obtain ⟨h3, h4⟩ := and2 h
  exact ⟨h1, h2, h3, (and2 h4).2⟩
theorem says_c (c : obsK q K = valA q) : (q.fna.all fun d => d.ok K) = true := by
  obtain ⟨h1, h⟩ := and2 (congrArg (fun z : Al => z.1) c)
  obtain ⟨h2, h⟩ := and2 h
  obtain ⟨h3, h4⟩ := and2 h
  exact (and2 h4).1
theorem says_two (c : obsK q K = valA q) : q.fn.map (fun d => He.fnW K d.at_) = q.fn.map He.DefD.val ∧ q.fna.map (fun d => He5.fnA K (d.at_ K)) = q.fna.map He5.DefA.val :=
  List.append_inj (congrArg (fun z : Al => z.2.1) c) (by rw [List.length_map, List.length_map])
theorem says_fa (c : obsK q K = valA q) (i : Nat) {f : He.Fa} (h : q.fa[i]? = some f := by rfl) : f.ok K = true := List.all_eq_true.mp (says_b c).1 f (List.mem_of_getElem? h)
theorem says_fn (c : obsK q K = valA q) (i : Nat) {d : He.DefD} (h : q.fn[i]? = some d := by rfl) : ∃ fd, FunD K d.name d.qual d.params d.body d.scope (d.dvs K) (d.kws K) (He.fAd K d.at_) fd := by
  have e : q.fn.map (fun d => He.fnW K d.at_) = q.fn.map He.DefD.val := (says_two c).1
  have e2 : (q.fn.map fun d => He.fnW K d.at_)[i]? = (q.fn.map He.DefD.val)[i]? := by rw [e]
  rw [List.getElem?_map, List.getElem?_map, h] at e2
  exact He.DefD.funD (Option.some.inj e2) (List.all_eq_true.mp (says_b c).2.1 d (List.mem_of_getElem? h))
theorem says_fnA (c : obsK q K = valA q) (i : Nat) {d : He5.DefA} (h : q.fna[i]? = some d := by rfl) : ∃ fd, FunD K d.name d.qual d.params d.body d.scope (d.dvs K) (d.kws K) (d.at_ K) fd := by
  have e2 : (q.fna.map fun d => He5.fnA K (d.at_ K))[i]? = (q.fna.map He5.DefA.val)[i]? := by rw [(says_two c).2]
  rw [List.getElem?_map, List.getElem?_map, h] at e2
  exact He5.DefA.funD (Option.some.inj e2) (List.all_eq_true.mp (says_c c) d (List.mem_of_getElem? h))
theorem says_sup (c : obsK q K = valA q) {prog : Program} (hf : q.file = prog.main.file) (i : Nat) {d : SupQ} (h : q.sup[i]? = some d) (T : SupT prog d) : ∃ fd, SupC K prog (He.ga K d.cls) (initA K d.cls) fd d.fl := by
  have e : q.sup.map (fun d => supV K d) = q.sup.map SupQ.val := congrArg (fun z : Al => z.2.2) c
  have e2 : (q.sup.map fun d => supV K d)[i]? = (q.sup.map SupQ.val)[i]? := by rw [e]
  rw [List.getElem?_map, List.getElem?_map, h] at e2
  exact supC_of T (Option.some.inj e2) (by rw [← hf]; exact List.all_eq_true.mp (says_b c).2.2.1 d (List.mem_of_getElem? h))
/-- a def without defaults -/
theorem fun_of {x qual : Str} {st : Stmt} {f : Addr} {fd : FuncData} {kws : List (Str × V)} (F : FunD K x qual (defArgs st) (defBody st) (defScope st) [] kws f fd) : Fun K x qual st f fd := by
  obtain ⟨oc, od, dV, kV, doc, pm, an, cdv, ct, osl, e, lk, hc, hD, _⟩ := F.ex
  rcases hD with ⟨_, hd⟩ | ⟨z, _⟩
  · subst hd
    exact ⟨⟨oc, od, kV, doc, pm, an, cdv, ct, osl, e, lk, hc⟩, F.kp⟩
  · exact absurd rfl z
end
end DH


/-! steps for errors as values, owned lists, the script -/
namespace DL
open PySem L2
section
variable {nf : Addr → Nat} {K : PySem.W.Frag} {De : EndsD nf} {env env' env1 : EV nf} {i j n : Nat} {d x y z : D} {da db dc : DT nf} {ra : DAs nf} {Q : D → EV nf → Prop} {C T : Addr} {ms : List Str} {f g : Str}
def MkVK (C : Addr) (ms : List Str) (Q : D → EV nf → Prop) : List D → EV nf → Prop := fun ds env1 => ds.length = ms.length ∧ Q (.exc C (ms.zip ds)) env1
theorem dMkV_s (h : ra env (MkVK C ms Q)) : dMkV C ms ra env Q := h
theorem mkV1_s (h : Q (.exc C [(f, x)]) env) : MkVK C [f] Q [x] env := ⟨rfl, h⟩
theorem mkV2_s (h : Q (.exc C [(f, x), (g, y)]) env) : MkVK C [f, g] Q [x, y] env := ⟨rfl, h⟩
theorem dMkV0_s (h : Q (.exc C []) env) : dMkV0 C env Q := h
/-- what is known of an error class: its instances are looked at, its fields are no attributes of the class -/
def ErrC (K : PySem.W.Frag) (C : Addr) (fl : List Str) : Prop := ExI K C ∧ ∀ f ∈ fl, PySem.W.findIn K (.ref C) f = some none
def ExGK (K : PySem.W.Frag) (f : Str) (Q : D → EV nf → Prop) : D → EV nf → Prop := fun x env1 => ∃ C fds z, x = .exc C fds ∧ ExI K C ∧ PySem.W.findIn K (.ref C) f = some none ∧ fds.lookup f = some z ∧ Q z env1
theorem dExG_s (h : da env (ExGK K f Q)) : dExG K f da env Q := h
theorem exG1_s {fds : List (Str × D)} (c : ErrC K C [f]) (e : fds.lookup f = some z) (h : Q z env) : ExGK K f Q (.exc C fds) env := ⟨C, fds, z, rfl, c.1, c.2 f (by simp), e, h⟩
theorem exG2_s {fds : List (Str × D)} (c : ErrC K C [f, g]) (e : fds.lookup f = some z) (h : Q z env) : ExGK K f Q (.exc C fds) env := ⟨C, fds, z, rfl, c.1, c.2 f (by simp), e, h⟩
theorem exG3_s {fds : List (Str × D)} (c : ErrC K C [g, f]) (e : fds.lookup f = some z) (h : Q z env) : ExGK K f Q (.exc C fds) env := ⟨C, fds, z, rfl, c.1, c.2 f (by simp), e, h⟩
theorem isX_s {fds : List (Str × D)} {b : Bool} (hI : ExI K C) (hk : PySem.W.kitOne K (.ref C) (.ref T) = some b) (h : Q (.bl b) env) : CbK (isX K) Q [.exc C fds, .cls T] env := ⟨_, ⟨C, fds, _, _, b, rfl, hI, rfl, hk, rfl⟩, h⟩
theorem isXT_s {fds : List (Str × D)} {b : Bool} {t : String} (hI : ExI K C) (hk : PySem.W.kitOne K (.ref C) (.type t) = some b) (h : Q (.bl b) env) : CbK (isX K) Q [.exc C fds, .ty t] env := ⟨_, ⟨C, fds, _, _, b, rfl, hI, rfl, hk, rfl⟩, h⟩
def D1K (db : DT nf) (Q : D → EV nf → Prop) : D → EV nf → Prop := fun x env1 => db env1 fun y env2 => ∃ k, keyOf x = some k ∧ Q (.dct [(k, y)]) env2
theorem dD1_s (h : da env (D1K db Q)) : dD1 da db env Q := h
theorem d1K_s {s : Str} (h : db env fun y env2 => Q (.dct [(.inr s, y)]) env2) (hm : ∀ {P P' : D → EV nf → Prop}, (∀ y e, P y e → P' y e) → db env P → db env P') : D1K db Q (.str s) env := hm (fun y e q => ⟨_, rfl, q⟩) h
theorem dNeg_s (h : da env fun x env1 => ∃ i, x = .int i ∧ Q (.int (-i)) env1) : dNeg da env Q := h
theorem sAugI_s {k : Int} (e : env[i]? = some (.fz (.int k))) (h : da env fun y env1 => ∃ m, y = .int m ∧ i < env1.length ∧ De.nx (env1.set i (.fz (.int (k + m))))) : sAugI i da De env := ⟨k, e, h⟩
theorem augK_s {k m : Int} (hl : Nat.blt i env.length = true) (e : env.set i (.fz (.int (k + m))) = env') (h : De.nx env') : ∃ m', D.int m = .int m' ∧ i < env.length ∧ De.nx (env.set i (.fz (.int (k + m')))) := ⟨m, rfl, Nat.blt_eq.mp hl, e ▸ h⟩
theorem dIxR_s (h : dOp fIxR da db env Q) : dIxR da db env Q := h
theorem ixR_s {ns : List Int} {k m : Int} (e : atI ns k = some m) (h : Q (.int m) env) : OpK fIxR Q (.scr ns) (.int k) env := ⟨_, ⟨ns, k, m, rfl, rfl, e, rfl⟩, h⟩
theorem lenR_s {ns : List Int} (h : Q (.int ns.length) env) : CbK fLenR Q [.scr ns] env := ⟨_, ⟨ns, rfl, rfl⟩, h⟩
theorem dNeS_s (h : dOp fNeS da db env Q) : dNeS da db env Q := h
theorem neS_s {xs ys : List D} (e : ys = xs) (ho : eqOk 60 (.lst xs) = true) (h : Q (.bl false) env) : OpK fNeS Q (.lst xs) (.lst ys) env := ⟨_, ⟨xs, rfl, by rw [e], ho, rfl⟩, h⟩
/-! owned lists -/
def IxVK (K : PySem.W.Frag) (i : Nat) (Q : D → EV nf → Prop) : D → EV nf → Prop := fun y env1 => ∃ xs j z, lsAt K env1 i xs ∧ y = .int j ∧ atI xs j = some z ∧ Q z env1
theorem dIxV_s {v : V} {xs : List D} (e : env[i]? = some (.ow v (lstA K nf xs))) (h : db env (IxVK K i Q)) : dIxV K i db env Q := ⟨⟨xs, .inr ⟨v, e⟩⟩, h⟩
theorem ixVK_s {v : V} {xs : List D} {k : Int} (e : env[i]? = some (.ow v (lstA K nf xs))) (ez : atI xs k = some z) (h : Q z env) : IxVK K i Q (.int k) env := ⟨xs, k, z, .inr ⟨v, e⟩, rfl, ez, h⟩
def LPutK2 (K : PySem.W.Frag) (i : Nat) (d : D) (De : EndsD nf) : D → EV nf → Prop := fun y env2 => ∃ v xs k j, env2[i]? = some (.ow v (lstA K nf xs)) ∧ y = .int k ∧ ixN xs.length k = some j ∧ De.nx (env2.set i (.ow v (lstA K nf (xs.set j d))))
def LPutK (K : PySem.W.Frag) (i : Nat) (db : DT nf) (De : EndsD nf) : D → EV nf → Prop := fun d env1 => (∃ v xs, env1[i]? = some (.ow v (lstA K nf xs))) ∧ db env1 (LPutK2 K i d De)
theorem sLPut_s (h : da env (LPutK K i db De)) : sLPut K i db da De env := h
theorem lPutK_s {v : V} {xs : List D} (e : env[i]? = some (.ow v (lstA K nf xs))) (h : db env (LPutK2 K i d De)) : LPutK K i db De d env := ⟨⟨v, xs, e⟩, h⟩
theorem lPutK2_s {v : V} {xs : List D} {k : Int} {j : Nat} (e : env[i]? = some (.ow v (lstA K nf xs))) (ej : ixN xs.length k = some j) (e2 : env.set i (.ow v (lstA K nf (xs.set j d))) = env') (h : De.nx env') : LPutK2 K i d De (.int k) env := ⟨v, xs, k, j, e, rfl, ej, e2 ▸ h⟩
def LAugK (K : PySem.W.Frag) (i : Nat) (k : Int) (v : V) (z : Int) (De : EndsD nf) : D → EV nf → Prop := fun d env1 => ∃ y xs1, d = .int y ∧ env1[i]? = some (.ow v (lstA K nf xs1)) ∧ k.toNat < xs1.length ∧ De.nx (env1.set i (.ow v (lstA K nf (xs1.set k.toNat (.int (z + y))))))
theorem sLAug_s {v : V} {xs : List D} {k z : Int} (e : env[i]? = some (.ow v (lstA K nf xs))) (hk : 0 ≤ k) (hz : xs[k.toNat]? = some (.int z)) (h : da env (LAugK K i k v z De)) : sLAug K i k da De env := ⟨v, xs, z, e, hk, hz, h⟩
theorem lAugK_s {v : V} {xs : List D} {k z y : Int} (e : env[i]? = some (.ow v (lstA K nf xs))) (hl : Nat.blt k.toNat xs.length = true) (e2 : env.set i (.ow v (lstA K nf (xs.set k.toNat (.int (z + y))))) = env') (h : De.nx env') : LAugK K i k v z De (.int y) env := ⟨y, xs, rfl, e, Nat.blt_eq.mp hl, e2 ▸ h⟩
theorem addLb_s {s t : List D} (hl : Nat.ble (s.length + t.length) 1000000 = true) (h : Q (.lst (s ++ t)) env) : FK addD Q (.lst s) (.lst t) env := addL_s (Nat.le_of_ble_eq_true hl) h
theorem sRetL_s (h : ra env fun xs env1 => xs.length ≤ 1000000 ∧ ∀ p, De.ro (.ref p) (lstA K nf xs) env1) : sRetL K ra De env := h
end
end DL

/-! a, b = x, y and a, b, c = x, y, z with plain names (stored from the right) -/
namespace DL
open PySem L2
section
variable [Anch] {X : Cx} {nf : Addr → Nat}
def gPar2 (i j : Nat) : DG nf := gT 2 (gsCons (gN i) (gsCons (gN j) gsNil))
theorem ds_par {i j : Nat} {x y : Str} {a b : Expr} {r : DAs nf} {px py pt pos : Pos} {kt k2 pt2} (hc : X.calm = true) (hN : X.N.Nodup) (hi : X.N[i]? = some x) (hj : X.N[j]? = some y) (hij : i ≠ j)
    (hx : X.env.scope.names.lookup x = some .local) (hy : X.env.scope.names.lookup y = some .local) (ha : DA X nf [a, b] r)
    (hw : swappedStores [.Tuple [.Name x px, .Name y py] kt pt] (.Tuple [a, b] k2 pt2) X.env = pure (some [x, y]) := by rfl)
    (hs : swapsWithSole [.Tuple [.Name x px, .Name y py] kt pt] (.Tuple [a, b] k2 pt2) pos.line X.env = pure false := by rfl) :
    DS X nf (.Assign [.Tuple [.Name x px, .Name y py] kt pt] (.Tuple [a, b] k2 pt2) pos) (sAsg (dTup r) (gT 2 (gsCons (gN i) (gsCons (gN j) gsNil)))) :=
  ps_imp (ps_par hc hN hi hj hij hx hy ha hw hs) fun E σ H ⟨env, fp, De, R, q, br⟩ =>
  ⟨env, fp, _, R, q, fun vs H1 ds env1 fp1 r1 R1 c1 ⟨_, ds', e0, hn, d, rs, e1, hl1, e, rs2, e2, hl2, e3, q1⟩ => by
    cases e0
    subst e1 e2 e3
    cases r1 with
    | cons ra r2 =>
      cases r2 with
      | cons rb r3 =>
        cases r3
        obtain ⟨fp2, R2, c2⟩ := R1.setFz hl1 ra
        obtain ⟨fp3, R3, c3⟩ := R2.setFz hl2 rb
        exact ⟨_, _, rfl, br.nx _ H1 _ fp3 R3 ((c1.trans c2).trans c3) q1⟩⟩
theorem ds_par3 {i j l : Nat} {x y z : Str} {a b c : Expr} {r : DAs nf} {px py pz pt pos : Pos} {kt k2 pt2} (hc : X.calm = true) (hN : X.N.Nodup) (hi : X.N[i]? = some x) (hj : X.N[j]? = some y) (hl : X.N[l]? = some z) (hij : i ≠ j) (hil : i ≠ l) (hjl : j ≠ l)
    (hx : X.env.scope.names.lookup x = some .local) (hy : X.env.scope.names.lookup y = some .local) (hz : X.env.scope.names.lookup z = some .local) (ha : DA X nf [a, b, c] r)
    (hw : swappedStores [.Tuple [.Name x px, .Name y py, .Name z pz] kt pt] (.Tuple [a, b, c] k2 pt2) X.env = pure (some [x, y, z]) := by rfl)
    (hs : swapsWithSole [.Tuple [.Name x px, .Name y py, .Name z pz] kt pt] (.Tuple [a, b, c] k2 pt2) pos.line X.env = pure false := by rfl) :
    DS X nf (.Assign [.Tuple [.Name x px, .Name y py, .Name z pz] kt pt] (.Tuple [a, b, c] k2 pt2) pos) (sAsg (dTup r) (gT 3 (gsCons (gN i) (gsCons (gN j) (gsCons (gN l) gsNil))))) :=
  ps_imp (ps_par3 hc hN hi hj hl hij hil hjl hx hy hz ha hw hs) fun E σ H ⟨env, fp, De, R, q, br⟩ =>
  ⟨env, fp, _, R, q, fun vs H1 ds env1 fp1 r1 R1 c1 ⟨_, ds', e0, hn, d, rs, e1, hl1, e, rs2, e2, hl2, f, rs3, e4, hl3, e3, q1⟩ => by
    cases e0
    subst e1 e2 e4 e3
    cases r1 with
    | cons ra r2 =>
      cases r2 with
      | cons rb r3 =>
        cases r3 with
        | cons rc r4 =>
          cases r4
          obtain ⟨fp2, R2, c2⟩ := R1.setFz hl1 ra
          obtain ⟨fp3, R3, c3⟩ := R2.setFz hl2 rb
          obtain ⟨fp4, R4, c4⟩ := R3.setFz hl3 rc
          exact ⟨_, _, _, rfl, br.nx _ H1 _ fp4 R4 (((c1.trans c2).trans c3).trans c4) q1⟩⟩
end
end DL

/-! x in y for data of any depth, tuple + tuple, slices of tuples, min and max of ints -/
namespace DL
open PySem L2
section
variable [Anch] {X : Cx} {nf : Addr → Nat} {K : PySem.W.Frag}
variable {a b e l : Expr} {pos : Pos} {da db : DT nf}
/-! ### in -/
def rInT (K : PySem.W.Frag) (neg : Bool) : R2 := fun x y H Q => ∃ d ds, Dp K H x d ∧ Dp K H y (.tuple ds) ∧ SeqAt.shaped d = true ∧ SeqAt.shaped (.tuple ds) = true ∧ Q (.bl (if neg then !ds.any (fun z => PyData.eqv z d) else ds.any (fun z => PyData.eqv z d))) H
theorem op_inT (hu : X.A.units + 65 < cLine) : OpR X (compareOp .In) (rInT X.K false) := by
  intro pins s σ H x y v u Q I rx ry ⟨d, ds, hd, he, sd, se, q⟩
  obtain ⟨as, r1⟩ := Dp.reads I d x v hd rx
  obtain ⟨bs, r2⟩ := Dp.reads I (.tuple ds) y u he ry
  exact SeqAt.in_tuple_reads r2 r1 (SeqAt.canLay_of_shaped se) (SeqAt.canLay_of_shaped sd) (PyProof.Rows.room_in_shaped sd hu) ⟨V.bl _, H, I, rfl, q⟩
theorem op_ninT (hu : X.A.units + 65 < cLine) : OpR X (compareOp .NotIn) (rInT X.K true) := by
  intro pins s σ H x y v u Q I rx ry ⟨d, ds, hd, he, sd, se, q⟩
  obtain ⟨as, r1⟩ := Dp.reads I d x v hd rx
  obtain ⟨bs, r2⟩ := Dp.reads I (.tuple ds) y u he ry
  exact SeqAt.notIn_tuple_reads r2 r1 (SeqAt.canLay_of_shaped se) (SeqAt.canLay_of_shaped sd) (PyProof.Rows.room_in_shaped sd hu) ⟨V.bl _, H, I, rfl, q⟩
def rInL (K : PySem.W.Frag) (neg : Bool) : R2 := fun x y H Q => ∃ d ds, Dp K H x d ∧ Dp K H y (.list ds) ∧ SeqAt.shaped d = true ∧ SeqAt.shaped (.list ds) = true ∧ Q (.bl (if neg then !ds.any (fun z => PyData.eqv z d) else ds.any (fun z => PyData.eqv z d))) H
/-- the answer of x in y -/
def inX (p : PyData) (ps : List PyData) : Bool := ps.any fun z => PyData.eqv z p
def fInX (neg : Bool) : D → D → D → Prop := fun x y z => ∃ p ps, pyOf x = some p ∧ (pyOf y = some (.list ps) ∨ pyOf y = some (.tuple ps)) ∧ SeqAt.shaped p = true ∧ SeqAt.shaped (.list ps) = true ∧ z = .bl (if neg then !inX p ps else inX p ps)
theorem shaped_lt {ps : List PyData} (h : SeqAt.shaped (.list ps) = true) : SeqAt.shaped (.tuple ps) = true := by
  unfold SeqAt.shaped at h ⊢
  simpa [PyData.canLay0, PyData.depth] using h
theorem od_inX {neg : Bool} : OpD K nf (fun x y H Q => rInL K neg x y H Q ∨ rInT K neg x y H Q) (fInX neg) := by
  rintro H v w x y z r1 r2 ⟨p, ps, e1, e2, s1, s2, rfl⟩ Q q
  rcases e2 with e2 | e2
  · exact .inl ⟨p, ps, dp_of r1 e1, dp_of r2 e2, s1, s2, q _ H (.bl _) Xt.refl⟩
  · exact .inr ⟨p, ps, dp_of r1 e1, dp_of r2 e2, s1, shaped_lt s2, q _ H (.bl _) Xt.refl⟩
theorem op_inX (hu : X.A.units + 65 < cLine) : OpR X (compareOp .In) (fun x y H Q => rInL X.K false x y H Q ∨ rInT X.K false x y H Q) := OpR.or (op_inD hu) (op_inT hu)
theorem op_ninX (hu : X.A.units + 65 < cLine) : OpR X (compareOp .NotIn) (fun x y H Q => rInL X.K true x y H Q ∨ rInT X.K true x y H Q) := OpR.or (op_notInD hu) (op_ninT hu)
def dInX (neg : Bool) (da db : DT nf) : DT nf := dOp (fInX neg) da db
theorem de_inX (hu : X.A.units + 65 < cLine) (ha : DE X nf a da) (hb : DE X nf b db) (hm : behindInMarks .In b = false := by rfl) : DE X nf (.Compare a [.In] [b] pos) (dInX false da db) := de_cmp (op_inX hu) od_inX ha hb hm
theorem de_ninX (hu : X.A.units + 65 < cLine) (ha : DE X nf a da) (hb : DE X nf b db) (hm : behindInMarks .NotIn b = false := by rfl) : DE X nf (.Compare a [.NotIn] [b] pos) (dInX true da db) := de_cmp (op_ninX hu) od_inX ha hb hm
theorem dc_inX (hu : X.A.units + 65 < cLine) (ha : DE X nf a da) (hb : DE X nf b db) (hm : behindInMarks .In b = false := by rfl) : DC X nf (.Compare a [.In] [b] pos) (dBv (dInX false da db)) := dc_cmp (op_inX hu) od_inX ha hb hm
theorem dc_ninX (hu : X.A.units + 65 < cLine) (ha : DE X nf a da) (hb : DE X nf b db) (hm : behindInMarks .NotIn b = false := by rfl) : DC X nf (.Compare a [.NotIn] [b] pos) (dBv (dInX true da db)) := dc_cmp (op_ninX hu) od_inX ha hb hm
/-- y a list of one's own -/
def dInXV (K : PySem.W.Frag) (neg : Bool) (da : DT nf) (i : Nat) : DT nf := fun env Q => da env fun x env1 => ∃ xs p ps, lsAt K env1 i xs ∧ pyOf x = some p ∧ pyOfs xs = some ps ∧ SeqAt.shaped p = true ∧ SeqAt.shaped (.list ps) = true ∧ Q (.bl (if neg then !inX p ps else inX p ps)) env1
theorem lift_inXV {neg : Bool} {i : Nat} (σ : St) (H : Hp) (Q : VK) (h : lift K nf (dInXV K neg da i) σ H Q) : tOp (rInL K neg) (lift K nf da) (tVar i) σ H Q := by
  obtain ⟨env, fp, Qd, R, h, k⟩ := h
  refine lift_run R h fun w H1 x env1 fp1 r1 R1 c1 ⟨xs, p, ps, h1, e1, e2, s1, s2, q⟩ => ?_
  obtain ⟨t, vs, es, sq, rr⟩ := R1.peek h1
  exact ⟨_, es, p, ps, dp_of r1 e1, .lst sq (dps_of rr e2), s1, s2, k _ H1 _ env1 fp1 (.bl _) R1 c1 q⟩
theorem de_inXV {i : Nat} (hu : X.A.units + 65 < cLine) (ha : DE X nf a da) (hl : PE X l (tVar i)) (hm : behindInMarks .In l = false := by rfl) : DE X nf (.Compare a [.In] [l] pos) (dInXV X.K false da i) := pe_imp (pe_cmpR (op_inD hu) ha hl hm) lift_inXV
theorem de_ninXV {i : Nat} (hu : X.A.units + 65 < cLine) (ha : DE X nf a da) (hl : PE X l (tVar i)) (hm : behindInMarks .NotIn l = false := by rfl) : DE X nf (.Compare a [.NotIn] [l] pos) (dInXV X.K true da i) := pe_imp (pe_cmpR (op_notInD hu) ha hl hm) lift_inXV
theorem dc_inXV {i : Nat} (hu : X.A.units + 65 < cLine) (ha : DE X nf a da) (hl : PE X l (tVar i)) (hm : behindInMarks .In l = false := by rfl) : DC X nf (.Compare a [.In] [l] pos) (dBv (dInXV X.K false da i)) := pt_imp (pt_cmpB (op_inD hu) ha hl hm) (lift_B2 lift_inXV)
theorem dc_ninXV {i : Nat} (hu : X.A.units + 65 < cLine) (ha : DE X nf a da) (hl : PE X l (tVar i)) (hm : behindInMarks .NotIn l = false := by rfl) : DC X nf (.Compare a [.NotIn] [l] pos) (dBv (dInXV X.K true da i)) := pt_imp (pt_cmpB (op_notInD hu) ha hl hm) (lift_B2 lift_inXV)
/-! ### tuples -/
def fCatT : D → D → D → Prop := fun x y z => ∃ xs ys, x = .tup xs ∧ y = .tup ys ∧ xs.length + ys.length ≤ 1000000 ∧ z = .tup (xs ++ ys)
theorem od_catT : OpD K nf (rCatA K) fCatT := by
  rintro H v w x y z r1 r2 ⟨xs, ys, rfl, rfl, hl, rfl⟩ Q q
  cases r1 with
  | @tup a vs _ h1 rr1 =>
    cases r2 with
    | @tup b ws _ h2 rr2 =>
      refine ⟨a, b, vs, ws, rfl, rfl, h1, h2, by rw [rr1.length, rr2.length]; exact sz_ok hl, fun e => ?_, fun _ e => ?_, fun _ _ p hp => ?_⟩
      · subst e
        cases rr1
        exact q _ H (.tup h2 rr2) Xt.refl
      · subst e
        cases rr2
        rw [List.append_nil] at q
        exact q _ H (.tup h1 rr1) Xt.refl
      · have xt : Xt H (upd H p (.tup (vs ++ ws))) := Xt.new hp
        exact q _ _ (.tup (SqT.of upd_same) ((rr1.append rr2).mono xt.stp)) xt
def dCatT (da db : DT nf) : DT nf := dOp fCatT da db
theorem de_catT (ha : DE X nf a da) (hb : DE X nf b db) : DE X nf (.BinOp a .Add b pos) (dCatT da db) := pe_imp (pe_op op_catA ha hb) fun σ H Q h => lift_op od_catT σ H Q h
def cutD (xs : List D) (l u : Option Int) : List D := (xs.drop (HT.sIx xs.length 0 l)).take (HT.sIx xs.length xs.length u - HT.sIx xs.length 0 l)
def dSlT (da : DT nf) (lo hi : DO nf) : DT nf := fun env Q => da env fun x env1 => lo env1 fun l env2 => hi env2 fun u env3 => ∃ xs, x = .tup xs ∧ Q (.tup (cutD xs l u)) env3
theorem de_slT {lo hi : Option Expr} {dl dh : DO nf} {p2 : Pos} (ha : DE X nf e da) (hl : PO X lo (liftO X.K nf dl)) (hh : PO X hi (liftO X.K nf dh)) : DE X nf (.Subscript e (.Slice lo hi none p2) pos) (dSlT da dl dh) := pe_imp (pe_slice sl_tupA ha hl hh) fun σ H Q ⟨env, fp, Qd, R, h, k⟩ =>
  lift_run R h fun v H1 x env1 fp1 r1 R1 c1 h1 => ⟨env1, fp1, _, R1, h1, fun l H2 env2 fp2 R2 c2 h2 => ⟨env2, fp2, _, R2, h2, fun u H3 env3 fp3 R3 c3 ⟨xs, ex, q⟩ => by
    subst ex
    cases r1 with
    | @tup a vs _ hz rr =>
      have st : Stp nf H1 H3 := (c2.stp R1).trans (c3.stp R2)
      have rc : Rels X.K nf H3 (cutV vs l u) (cutD xs l u) := by
        unfold cutV cutD
        rw [rr.length]
        exact ((rr.mono st).drop _).take _
      refine ⟨a, vs, rfl, sqT_mono st hz, fun ⟨e1, e2⟩ => ?_, fun _ p hp => ?_⟩
      · have ew : cutD xs l u = xs := by
          unfold cutD
          rw [rr.length] at e1 e2
          rw [e1, e2]
          simp
        rw [ew] at q
        exact k _ H3 _ env3 fp3 (.tup (sqT_mono st hz) (rr.mono st)) R3 ((c1.trans c2).trans c3) q
      · have x : Xt H3 (upd H3 p (.tup (cutV vs l u))) := Xt.new hp
        exact k _ _ _ env3 fp3 (.tup (SqT.of upd_same) (rc.mono x.stp)) (R3.ext x) (((c1.trans c2).trans c3).trans x.ch) q⟩⟩
/-! ### min, max -/
def fMin : List D → D → Prop := fun ds d => (∃ i j, ds = [.int i, .int j] ∧ d = .int (if j < i then j else i))
def fMax : List D → D → Prop := fun ds d => (∃ i j, ds = [.int i, .int j] ∧ d = .int (if j > i then j else i))
def fMin3 : List D → D → Prop := fun ds d => (∃ i j l, ds = [.int i, .int j, .int l] ∧ d = .int (if l < (if j < i then j else i) then l else (if j < i then j else i)))
theorem cd_min : CbD K nf (fun xs H Q => ∃ i j, xs = [.int i, .int j] ∧ Q (.int (if j < i then j else i)) H) fMin := by
  rintro H vs ds d r ⟨i, j, rfl, rfl⟩ Q q
  obtain ⟨v, w, rfl, h1, h2⟩ := rels2x r
  exact ⟨i, j, by rw [rel_int h1, rel_int h2], q _ H (.int _) Xt.refl⟩
theorem cd_max : CbD K nf (fun xs H Q => ∃ i j, xs = [.int i, .int j] ∧ Q (.int (if j > i then j else i)) H) fMax := by
  rintro H vs ds d r ⟨i, j, rfl, rfl⟩ Q q
  obtain ⟨v, w, rfl, h1, h2⟩ := rels2x r
  exact ⟨i, j, by rw [rel_int h1, rel_int h2], q _ H (.int _) Xt.refl⟩
theorem cd_min3 : CbD K nf (rNuC3 nuMin3) fMin3 := by
  rintro H vs ds d r ⟨i, j, l, rfl, rfl⟩ Q q
  cases r with
  | cons h1 r =>
    obtain ⟨v, w, rfl, h2, h3⟩ := rels2x r
    have e1 := rel_int h1
    have e2 := rel_int h2
    have e3 := rel_int h3
    subst e1 e2 e3
    refine ⟨_, _, _, .int (if l < (if j < i then j else i) then l else (if j < i then j else i)), rfl, ?_, q _ H (.int _) Xt.refl⟩
    unfold nuMin3 nuMin2
    by_cases c1 : j < i
    · by_cases c2 : l < j <;> simp [nuLt, nuCB, c1, c2]
    · by_cases c2 : l < i <;> simp [nuLt, nuCB, c1, c2]
end
end DL

/-! list op own, tuple op own by the reflected method -/
namespace DL
open PySem L2
section
open PySem.W PySem.Calls PyProof.Rows
variable {prog : Program} {w : World} {A : Around} {E : Value → Shared → Prop} {s : Shared} {K : Frag} {x C L f g : Addr} {h₀ : Heap} {m : Str → Option Value} {ox : Obj} {od : Option Obj}
/-- a built-in type without the operator on the left, an own class that reflects on the right -/
theorem binR_bare {op : Operator} {a x : Addr} {T : String} {Q : Value → Shared → Prop} (F : Fr h₀ L s.heap m) (X₀ : K.In h₀) (I : InstAt s.heap x ox C od) (hT : s.TypeIs (.ref a) T) (hfl : (fillsNumberSlot (.type T) op.info.2 : Sem Bool) = pure false) (hc : selfFirst K C = true)
    (hs : findIn K (.ref C) (PySem.dunder op.info.2) = some (some (.ref f))) (hr : findIn K (.ref C) (dunderR op.info.2) = some (some (.ref g))) (hf : isFn K (.ref g) = true)
    (h : wpAny (model prog w) A (call (.ref g) [.ref x, .ref a]) (PySem.W.CmpBack Q) E s) : wpAny (model prog w) A (binaryOp op (.ref a) (.ref x)) Q E s := by
  have X := X₀.keeps F.keep
  obtain ⟨cd, rest, hcd, hm⟩ := ksp_first hc
  have one := ksp_try X I hr hf h
  have L1 : Looks (model prog w) s.heap (typeOf (.ref x)) (.ref C) := I.type
  have L3 : Looks (model prog w) s.heap (fillsNumberSlot (.ref C) op.info.2) true := fills_K X hcd hm hs
  have hne : (Value.type T == Value.ref C) = false := Bool.eq_false_iff.mpr fun q => by cases beq_iff_eq.mp q
  unfold binaryOp
  refine wpAny_holding (wpAny_bind ?_)
  show wpAny _ _ (binaryOp1 op.info.2 _ _) _ _ _
  unfold binaryOp1
  refine wpAny_bind (wpAny_typeOf hT (wpAny_bind (L1.here (wpAny_bind (wpAny_of_eq hfl ?_)))))
  simp only [hne, Bool.false_eq_true, if_false]
  refine wpAny_bind (L3.here ?_)
  simp only [Bool.false_and, Bool.false_eq_true, if_false, pure_bind, Bool.not_false, Bool.and_self, if_true]
  refine wpAny_bind (wpAny_mono one (fun r s' hr' => ?_) fun _ _ e => e)
  obtain ⟨v, rfl, hq⟩ := hr'
  exact wpAny_bind (wpAny_rule (wpAny_pure (wpAny_pure hq)))
end
/-- an own class that has the operator and its reflected one; lists and tuples have none -/
structure OpB (K : PySem.W.Frag) (C : Addr) (nm : String) (f g : Addr) : Prop where
  sf : PySem.W.selfFirst K C = true
  hs : PySem.W.findIn K (.ref C) (PySem.dunder nm) = some (some (.ref f))
  hr : PySem.W.findIn K (.ref C) (dunderR nm) = some (some (.ref g))
  hf : PySem.W.isFn K (.ref g) = true
def Bare (nm : String) : Prop := (fillsNumberSlot (.type "list") nm : Sem Bool) = pure false ∧ (fillsNumberSlot (.type "tuple") nm : Sem Bool) = pure false
theorem bare_or : Bare "or" := ⟨by kernel_rfl, by kernel_rfl⟩
theorem bare_and : Bare "and" := ⟨by kernel_rfl, by kernel_rfl⟩
theorem bare_sub : Bare "sub" := ⟨by kernel_rfl, by kernel_rfl⟩
theorem bare_xor : Bare "xor" := ⟨by kernel_rfl, by kernel_rfl⟩
section
variable [Anch] {X : Cx} {nf : Addr → Nat} {K : PySem.W.Frag} {CX : CXT} {k : Nat} {f g C : Addr} {fd : FuncData} {ps : List Str} {sp : Sp} {E : XK} {op : Operator}
theorem op_sOwn (F : FnOk X.prog X.w X.K X.mg X.base CX k g fd ps sp) (hr : Room k X.A) (hb : Binds X.K fd ps []) (hx : Passes CX X E) (o : OpB X.K C op.info.2 f g) (B : Bare op.info.2) :
    OpR X (binaryOp op) (fun x y H Q => (∃ a b dx fs xs, x = .ref a ∧ y = .ref b ∧ H b = some (.ins C dx fs) ∧ (SqL X.K H a xs ∨ SqT X.K H a xs)) ∧ sp [y, x] H Q E) := by
  intro pins s σ H x y v u Q I rx ry ⟨⟨a, b, dx, fs, xs, ex, ey, ha, hq⟩, h⟩
  subst ex ey
  cases rx; cases ry
  obtain ⟨m, hF⟩ := I.fr
  obtain ⟨mA, O, _⟩ := ins_get I.hok ha
  obtain ⟨od, J, _⟩ := O.look
  have go : ∀ T, s.TypeIs (.ref a) T → (fillsNumberSlot (.type T) op.info.2 : Sem Bool) = pure false → wpAny (model X.prog X.w) X.A (binaryOp op (.ref a) (.ref b)) (EP X pins σ Q) X.xe s := fun T hT hfl =>
    binR_bare hF I.mod.kin J hT hfl o.sf o.hs o.hr o.hf (wpAny_mono (run_fn F hr hb .nil hx I (.cons (rv_ref _) (.cons (rv_ref _) .nil)) h) (fun _ _ q => cmpBack_of q) fun _ _ e => e)
  rcases hq with hq | hq
  · obtain ⟨its, _, ⟨o2, n2, h1, h2, _⟩, _⟩ := I.list hq
    exact go "list" ⟨o2, h1, h2⟩ B.1
  · obtain ⟨its, _, pl, _⟩ := I.tuple hq
    exact go "tuple" pl.typeIs B.2
variable {a b : Expr} {pos : Pos} {da db : DT nf} {S : SpD nf}
theorem de_sOwn (F : FnOk X.prog X.w X.K X.mg X.base CX k g fd ps (toSp X.K nf 2 S)) (hr : Room k X.A) (hb : Binds X.K fd ps []) (hx : Passes CX X E) (o : OpB X.K C op.info.2 f g) (B : Bare op.info.2) (ha : DE X nf a da) (hb' : DE X nf b db) :
    DE X nf (.BinOp a op b pos) (dOwnOp true (fun x y => isSq x ∧ isO C y) S da db) := pe_imp (pe_op (op_sOwn F hr hb hx o B) ha hb') (lift_own fun H v w x y Q r1 r2 ⟨⟨xs, e1⟩, ⟨fs, e2⟩⟩ h => by
  subst e2
  cases r2 with
  | obj h2 _ _ _ =>
    rcases e1 with rfl | rfl
    · cases r1 with
      | lst h1 _ => exact ⟨⟨_, _, _, _, _, rfl, rfl, h2, .inl h1.sq⟩, h⟩
    · cases r1 with
      | tup h1 _ => exact ⟨⟨_, _, _, _, _, rfl, rfl, h2, .inr h1⟩, h⟩)
/-- x op y by x's method, or by y's reflected one -/
def dOwnE (P1 P2 : D → D → Prop) (S1 S2 : SpD nf) (da db : DT nf) : DT nf := fun env Q => da env fun x env1 => db env1 fun y env2 => (P1 x y ∧ S1 [.fz x, .fz y] fun d _ => Q d env2) ∨ (P2 x y ∧ S2 [.fz y, .fz x] fun d _ => Q d env2)
theorem lift_ownE {P1 P2 : D → D → Prop} {S1 S2 : SpD nf} {E2 : XK} {r1 r2 : R2} (h1 : ∀ H v w x y Q, Rel K nf H v x → Rel K nf H w y → P1 x y → toSp K nf 2 S1 [v, w] H Q E → r1 v w H Q) (h2 : ∀ H v w x y Q, Rel K nf H v x → Rel K nf H w y → P2 x y → toSp K nf 2 S2 [w, v] H Q E2 → r2 v w H Q)
    (σ : St) (H : Hp) (Q : VK) (h : lift K nf (dOwnE P1 P2 S1 S2 da db) σ H Q) : tOp (fun x y H Q => r1 x y H Q ∨ r2 x y H Q) (lift K nf da) (lift K nf db) σ H Q := by
  obtain ⟨env, fp, Qd, R, h, k⟩ := h
  refine lift_run R h fun v H1 x env1 fp1 r1 R1 c1 g1 => ?_
  refine lift_run R1 g1 fun w H2 y env2 fp2 r2 R2 c2 g2 => ?_
  have r1' := r1.mono (c2.stp R1)
  have pb : ∀ (x y : D) as', putBack env2 [.v x, .v y] as' = env2 := fun x y as' => by
    cases as' with
    | nil => simp [putBack]
    | cons s as' =>
      cases as' with
      | nil => simp [putBack]
      | cons s2 as2 => simp [putBack]
  rcases g2 with ⟨hP, hS⟩ | ⟨hP, hS⟩
  · exact .inl (h1 H2 v w x y Q r1' r2 hP (sp_run (ads := [.v x, .v y]) R2 (.val r1' (.val r2 .nil)) rfl List.nodup_nil (fun i m => by cases m) (by simp only [pb]; exact hS) fun u H3 d env3 fp3 r3 R3 c3 q => k u H3 d env3 fp3 r3 R3 ((c1.trans c2).trans c3) q))
  · exact .inr (h2 H2 v w x y Q r1' r2 hP (sp_run (ads := [.v y, .v x]) R2 (.val r2 (.val r1' .nil)) rfl List.nodup_nil (fun i m => by cases m) (by simp only [pb]; exact hS) fun u H3 d env3 fp3 r3 R3 c3 q => k u H3 d env3 fp3 r3 R3 ((c1.trans c2).trans c3) q))
variable {fd2 : FuncData} {ps2 : List Str} {k2 : Nat} {E2 : XK} {S2 : SpD nf}
/-- own op own, or list or tuple op own -/
theorem de_ownL (F : FnOk X.prog X.w X.K X.mg X.base CX k f fd ps (toSp X.K nf 2 S)) (hr : Room k X.A) (hb : Binds X.K fd ps []) (hx : Passes CX X E) (F2 : FnOk X.prog X.w X.K X.mg X.base CX k2 g fd2 ps2 (toSp X.K nf 2 S2)) (hr2 : Room k2 X.A) (hb2 : Binds X.K fd2 ps2 []) (hx2 : Passes CX X E2)
    (o : OpC X.K C op.info.2 f) (o2 : OpB X.K C op.info.2 f g) (B : Bare op.info.2) (ha : DE X nf a da) (hb' : DE X nf b db) :
    DE X nf (.BinOp a op b pos) (dOwnE (fun x y => isO C x ∧ isO C y) (fun x y => isSq x ∧ isO C y) S S2 da db) := pe_imp (pe_op (OpR.or (op_own F hr hb hx o) (op_sOwn F2 hr2 hb2 hx2 o2 B)) ha hb') (lift_ownE (fun H v w x y Q r1 r2 ⟨⟨fs, e1⟩, ⟨gs, e2⟩⟩ h => by
  subst e1 e2
  cases r1 with
  | obj h1 _ _ _ =>
    cases r2 with
    | obj h2 _ _ _ => exact ⟨⟨_, _, _, _, _, _, rfl, rfl, h1, h2⟩, h⟩) (fun H v w x y Q r1 r2 ⟨⟨xs, e1⟩, ⟨fs, e2⟩⟩ h => by
  subst e2
  cases r2 with
  | obj h2 _ _ _ =>
    rcases e1 with rfl | rfl
    · cases r1 with
      | lst h1 _ => exact ⟨⟨_, _, _, _, _, rfl, rfl, h2, .inl h1.sq⟩, h⟩
    · cases r1 with
      | tup h1 _ => exact ⟨⟨_, _, _, _, _, rfl, rfl, h2, .inr h1⟩, h⟩))
/-- own op own, list or tuple -/
theorem de_ownR (F : FnOk X.prog X.w X.K X.mg X.base CX k f fd ps (toSp X.K nf 2 S)) (hr : Room k X.A) (hb : Binds X.K fd ps []) (hx : Passes CX X E) {r1 f1 o1 r2 f2 o2 : Option Value} (o : OpC X.K C op.info.2 f) (t1 : OpT X.K C op.info.2 "list" r1 f1 o1) (t2 : OpT X.K C op.info.2 "tuple" r2 f2 o2)
    (ha : DE X nf a da) (hb' : DE X nf b db) : DE X nf (.BinOp a op b pos) (dOwnOp false (fun x y => isO C x ∧ (isO C y ∨ isSq y)) S da db) := pe_imp (pe_op (OpR.or (op_own F hr hb hx o) (op_ownS F hr hb hx o t1 t2)) ha hb') (lift_own fun H v w x y Q r1 r2 ⟨⟨fs, e1⟩, e2⟩ h => by
  subst e1
  cases r1 with
  | obj h1 _ _ _ =>
    rcases e2 with ⟨gs, e2⟩ | ⟨xs, e2 | e2⟩
    · subst e2
      cases r2 with
      | obj h2 _ _ _ => exact .inl ⟨⟨_, _, _, _, _, _, rfl, rfl, h1, h2⟩, h⟩
    · subst e2
      have ty := ty_of (t := .type "list") (fun C fs z => by cases z) r2 rfl
      cases r2 with
      | lst h2 _ => exact .inr ⟨⟨_, _, _, _, rfl, rfl, h1, .inl ty⟩, h⟩
    · subst e2
      have ty := ty_of (t := .type "tuple") (fun C fs z => by cases z) r2 rfl
      cases r2 with
      | tup h2 _ => exact .inr ⟨⟨_, _, _, _, rfl, rfl, h1, .inr ty⟩, h⟩)
end
end DL

/-! sets of things on the heap, by what is asked of the things: a search in the table -/
namespace DS
open PySem PySem.Spec PyProof.Rows L2
/-- things on the heap that a set holds: what they are (by a plain name κ), their hash, their == -/
structure Elt (P : Program) (w : World) (κ : Type) [DecidableEq κ] where
  is : Heap → κ → Addr → Prop
  hash : κ → Int
  eq : ∀ {A : Around} {E : Value → Shared → Prop} {s : Shared} {k l : κ} {x y : Addr} {Q : Bool → Shared → Prop}, A.units < cLine → is s.heap k x → is s.heap l y → Q (decide (k = l)) s → wpAny (model P w) A (eqBool (.ref x) (.ref y)) Q E s
  seen : ∀ {A : Around} {E : Value → Shared → Prop} {s : Shared} {k : κ} {x : Addr} {ys : List Value} {Q : Bool → Shared → Prop}, is s.heap k x → (∀ y ∈ ys, ∃ l c, y = Value.ref c ∧ is s.heap l c) → Q false s → wpAny (model P w) A (searchCouldBeSeen (.ref x) ys) Q E s
/-- the c-th state of the way of a hash -/
abbrev prb (m : Nat) (h : Int) (c : Nat) : SetTable.Probe := nth m (runAt m (SetTable.bits h % (m + 1)) (SetTable.bits h)) c
theorem dummy_nth (m : Nat) : ∀ (n : Nat) (p : SetTable.Probe), p.dummy = none → (nth m p n).dummy = none
  | 0, _, h => h
  | n + 1, p, h => dummy_nth m n (adv m p) (by unfold adv; split <;> exact h)
theorem prb_add (m : Nat) (h : Int) (c q : Nat) : nth m (prb m h c) q = prb m h (c + q) := (nth_add m c _ q).symm
section
variable {P : Program} {w : World} {κ : Type} [DecidableEq κ] (T : Elt P w κ)
def rws (L : List (Addr × κ)) : List (Int × Value) := L.map fun p => (T.hash p.2, Value.ref p.1)
/-- the set at a holds the things L, in the table t -/
structure SetG (h : Heap) (a : Addr) (L : List (Addr × κ)) (es : Array (Int × Value)) (ep : Nat) (t : SetTable) : Prop where
  ob : ∃ o, h.get? a = some o ∧ o.ExactSet ∧ o.data = .set es ep t
  rows : es.toList = rws T L
  tab : TabOk t (L.map fun p => T.hash p.2)
  nd : (L.map (·.2)).Nodup
  elt : ∀ p ∈ L, T.is h p.2 p.1
  led : w.params.followText "set-order" = true ∨ t.led = true
  room : L.length * 5 < t.mask * 3
  few : L.length < 64
end
section
variable {P : Program} {w : World} {κ : Type} [DecidableEq κ] {T : Elt P w κ} {A : Around} {E : Value → Shared → Prop} {s : Shared} {a : Addr} {L : List (Addr × κ)} {es : Array (Int × Value)} {ep : Nat} {t : SetTable}
theorem SetG.size {h : Heap} (R : SetG T h a L es ep t) : es.size = L.length := by
  rw [← Array.length_toList, R.rows]
  simp [rws]
theorem SetG.fits {h : Heap} (R : SetG T h a L es ep t) : t.fits es.size = true := by
  have z1 := R.tab.sz
  have z2 := R.room
  rw [List.length_map] at z1
  unfold SetTable.fits SetTable.fill
  rw [R.tab.dm, R.size, Bool.and_eq_true]
  refine ⟨beq_iff_eq.mpr z1, decide_eq_true ?_⟩
  show t.place.size + 0 ≤ t.mask
  omega
theorem SetG.at {h : Heap} (R : SetG T h a L es ep t) {i : Nat} {p : Addr × κ} (e : L[i]? = some p) : es[i]? = some (T.hash p.2, Value.ref p.1) := by
  have z : es.toList[i]? = (rws T L)[i]? := by rw [R.rows]
  rw [Array.getElem?_toList] at z
  rw [z]
  simp [rws, e]
theorem SetG.gw {h : Heap} (R : SetG T h a L es ep t) : ¬ t.gaveWay = true := by
  unfold SetTable.gaveWay
  rw [mask_odd R.tab.mok]
  decide
/-- the search, from the c-th state on -/
theorem findFrom (R : SetG T s.heap a L es ep t) {x : Addr} {k : κ} (hx : T.is s.heap k x) (hu : A.units < cLine) {n : Nat} (hn : n < 10 * SetTable.turns t.mask) (free : way t.mask (T.hash k) n ∉ t.place.toList) (full : ∀ c, c < n → way t.mask (T.hash k) c ∈ t.place.toList) {Q : SetFound → Shared → Prop}
    (yes : k ∈ L.map (·.2) → Q (.there none) s) (no : k ∉ L.map (·.2) → Q (.free (way t.mask (T.hash k) n) false) s) :
    ∀ (fuel c : Nat) (st : Option SetTable.Probe), st.getD (t.probeStart (T.hash k)) = prb t.mask (T.hash k) c → c ≤ n → n - c < fuel →
      (∀ (i : Nat) p, L[i]? = some p → p.2 = k → ∃ c', c ≤ c' ∧ c' < n ∧ t.place.toList[i]? = some (way t.mask (T.hash k) c')) →
      wpAny (model P w) A (setSearchFrom a (.ref x) (T.hash k) true fuel st) Q E s
  | 0, c, st, _, _, hf, _ => absurd hf (Nat.not_lt_zero _)
  | fuel + 1, c, st, hst, hc, hf, ahead => by
    obtain ⟨o, ho, hex, hd⟩ := R.ob
    have jw : ∀ q, (nth t.mask (prb t.mask (T.hash k) c) q).j = way t.mask (T.hash k) (c + q) := fun q => by rw [prb_add]
    have hsh : ∀ (i : Nat) p, L[i]? = some p → (es[i]?.map (·.1)).getD 0 = T.hash p.2 := fun i p e => by rw [R.at e]; rfl
    have sp := go_spec t R.tab.ris R.tab.dm (fun i => (es[i]?.map (·.1)).getD 0) (T.hash k) (10 * SetTable.turns t.mask) (n - c) (prb t.mask (T.hash k) c) (dummy_nth _ _ _ rfl) (by omega) (fun q hq => by rw [jw]; exact full _ (by omega)) (by rw [jw, Nat.add_sub_cancel' hc]; exact free)
    rw [setSearchFrom_succ]
    refine wpAny_bind (wpAny_setState_of ho hd R.fits ?_)
    dsimp only
    refine wp_if_neg R.gw ?_
    try refine wpAny_bind (wpAny_pure ?_)
    rw [hst]
    rcases sp with ⟨q, i, hq, hi, hh, before, pq⟩ | ⟨before, pq⟩
    · rw [jw] at hi
      have hp0 : t.probe (fun i => (es[i]?.map (·.1)).getD 0) (T.hash k) (prb t.mask (T.hash k) c) = some (.candidate (way t.mask (T.hash k) (c + q)) i (prb t.mask (T.hash k) (c + (q + 1)))) := by
        rw [← jw, ← prb_add]; exact pq
      rw [hp0]
      dsimp only
      have hil : i < L.length := by
        have z1 : i < t.place.size := by
          have := (List.getElem?_eq_some_iff.mp hi).1
          rwa [Array.length_toList] at this
        have z2 := R.tab.sz
        rw [List.length_map] at z2
        omega
      obtain ⟨p, hp⟩ : ∃ p, L[i]? = some p := ⟨_, List.getElem?_eq_getElem hil⟩
      have pm := List.mem_of_getElem? hp
      have live := slot_live R.tab.ris hi
      have go : wpAny (model P w) A (searchRest a (.ref x) (T.hash k) true fuel es t (way t.mask (T.hash k) (c + q)) i (prb t.mask (T.hash k) (c + (q + 1)))) Q E s := by
        unfold searchRest
        rw [R.at hp]
        refine wpAny_bind (wpAny_holding (T.eq hu (R.elt p pm) hx ?_))
        refine wpAny_bind (wpAny_setState_of ho hd R.fits ?_)
        dsimp only
        by_cases same : p.2 = k
        · refine wp_if_pos (by simp [same]) (wpAny_pure (yes ?_))
          exact List.mem_map.mpr ⟨p, pm, same⟩
        · refine wp_if_neg (by simp [same]) ?_
          try refine wpAny_bind (wpAny_pure ?_)
          rw [sameMem]
          simp only [if_true, live, R.at hp]
          refine wpAny_bind (wpAny_isSame_ref_self (wpAny_bind (wpAny_pure ?_)))
          simp only [if_true]
          refine wp_if_neg (by simp [same]) ?_
          refine findFrom R hx hu hn free full yes no fuel (c + (q + 1)) _ rfl (by omega) (by omega) fun i' p' e' k' => ?_
          obtain ⟨c', b1, b2, b3⟩ := ahead i' p' e' k'
          refine ⟨c', ?_, b2, b3⟩
          rcases Nat.lt_trichotomy c' (c + q) with z | z | z
          · refine absurd ?_ (before (c' - c) i' (by omega) (by rw [jw, Nat.add_sub_cancel' b1]; exact b3))
            rw [hsh i' p' e', k']
          · rw [z] at b3
            have two := slot_live R.tab.ris b3
            rw [live] at two
            injection two with two
            rw [← two, hp] at e'
            cases e'
            exact absurd k' same
          · omega
      by_cases hl : t.led = true
      · refine wp_if_neg (by simp [hl]) ?_
        try refine wpAny_bind (wpAny_pure ?_)
        exact go
      · refine wp_if_pos (by simp [hl]) ?_
        refine wpAny_bind (T.seen hx (fun y hy => ?_) ?_)
        · obtain ⟨e, he, ee⟩ := List.mem_map.mp hy
          have m : e ∈ es.toList := by
            have : e ∈ es ∧ e.1 = T.hash k := by simpa using he
            simpa using this.1
          rw [R.rows] at m
          obtain ⟨p2, m2, e2⟩ := List.mem_map.mp m
          exact ⟨p2.2, p2.1, by rw [← ee, ← e2], R.elt p2 m2⟩
        · refine wp_if_neg (by decide) ?_
          try refine wpAny_bind (wpAny_pure ?_)
          exact go
    · have hp0 : t.probe (fun i => (es[i]?.map (·.1)).getD 0) (T.hash k) (prb t.mask (T.hash k) c) = some (.empty (way t.mask (T.hash k) n) none) := by
        have z : way t.mask (T.hash k) n = (nth t.mask (prb t.mask (T.hash k) c) (n - c)).j := by rw [jw, Nat.add_sub_cancel' hc]
        rw [z]; exact pq
      rw [hp0]
      refine wpAny_pure (no fun m => ?_)
      obtain ⟨p', m', k'⟩ := List.mem_map.mp m
      obtain ⟨i', l', e'⟩ := List.getElem_of_mem m'
      have e' : L[i']? = some p' := by rw [List.getElem?_eq_getElem l', e']
      obtain ⟨c', b1, b2, b3⟩ := ahead i' p' e' k'
      refine before (c' - c) i' (by omega) (by rw [jw, Nat.add_sub_cancel' b1]; exact b3) ?_
      rw [hsh i' p' e', k']
end
end DS

/-! .. adding a thing; the table laid anew -/
namespace DS
open PySem PySem.Spec PyProof.Rows L2
/-- what adding asks of the things beside -/
structure EltA (P : Program) (w : World) (κ : Type) [DecidableEq κ] extends Elt P w κ where
  off : ∀ {h h' : Heap} {k : κ} {a b : Addr} {o : Obj} {es : Array (Int × Value)} {ep : Nat} {t : SetTable}, is h k b → h.get? a = some o → o.data = .set es ep t → Heap.SameBut a h h' → is h' k b
  byVal : ∀ {A : Around} {E : Value → Shared → Prop} {s : Shared} {k : κ} {x : Addr} {Q : Bool → Shared → Prop}, is s.heap k x → (∀ b, Q b s) → wpAny (model P w) A (hashByValue 8 (.ref x)) Q E s
section
variable {P : Program} {w : World} {κ : Type} [DecidableEq κ] {T : EltA P w κ} {A : Around} {E : Value → Shared → Prop} {s : Shared} {a : Addr} {L : List (Addr × κ)} {es : Array (Int × Value)} {ep : Nat} {t : SetTable}
theorem findAt (R : SetG T.toElt s.heap a L es ep t) {x : Addr} {k : κ} (hx : T.is s.heap k x) (hu : A.units < cLine) {Q : SetFound → Shared → Prop} (yes : k ∈ L.map (·.2) → Q (.there none) s)
    (no : ∀ n, k ∉ L.map (·.2) → way t.mask (T.hash k) n ∉ t.place.toList → (∀ c, c < n → way t.mask (T.hash k) c ∈ t.place.toList) → Q (.free (way t.mask (T.hash k) n) false) s) :
    wpAny (model P w) A (setSearch a (.ref x) (T.hash k) true) Q E s := by
  have z := R.room
  have zs := R.tab.sz
  rw [List.length_map] at zs
  obtain ⟨n, n1, n2, n3⟩ := R.tab.first (h := T.hash k) (by rw [List.length_map]; omega)
  have few : n < 100000 := by
    have : SetTable.turns t.mask ≤ 142 := by
      unfold SetTable.turns
      rcases R.tab.mok with e | e | e <;> rw [e] <;> decide
    omega
  unfold setSearch
  refine findFrom R hx hu n1 n2 n3 yes (fun hn => no n hn n2 n3) 100000 0 none rfl (Nat.zero_le _) (by omega) fun i p e ek => ?_
  have li : i < t.place.toList.length := by
    have := (List.getElem?_eq_some_iff.mp e).1
    rw [Array.length_toList]
    omega
  have ej := List.getElem?_eq_getElem li
  obtain ⟨c, c1, c2⟩ := R.tab.before n2 (show (L.map fun p => T.hash p.2)[i]? = some (T.hash k) by rw [List.getElem?_map, e]; show some (T.hash p.2) = _; rw [ek]) ej
  exact ⟨c, Nat.zero_le _, c1, by rw [ej, c2]⟩
theorem rws_len (L : List (Addr × κ)) : (rws T.toElt L).length = L.length := by simp [rws]
theorem picks (L : List (Addr × κ)) (hes : es.toList = rws T.toElt L) : ∀ l : List Nat, (∀ i ∈ l, i < L.length) → l.filterMap (fun i => es[i]?) = rws T.toElt (l.filterMap fun i => L[i]?) ∧ (l.filterMap fun i => L[i]?).map (fun p => T.hash p.2) = l.map fun i => (es.map (·.1)).getD i 0
  | [], _ => ⟨rfl, rfl⟩
  | i :: l, h => by
    obtain ⟨b1, b2⟩ := picks L hes l fun j hj => h j (List.mem_cons_of_mem _ hj)
    have hi := h i List.mem_cons_self
    have e1 : L[i]? = some L[i] := List.getElem?_eq_getElem hi
    have e2 : es[i]? = some (T.hash L[i].2, Value.ref L[i].1) := by
      have : es.toList[i]? = (rws T.toElt L)[i]? := by rw [hes]
      rw [Array.getElem?_toList] at this
      rw [this]
      simp [rws, e1]
    have e3 : (es.map (·.1)).getD i 0 = T.hash L[i].2 := by simp [Array.getD_eq_getD_getElem?, e2]
    rw [List.filterMap_cons_some e2, List.filterMap_cons_some e1, List.map_cons, List.map_cons, b2, e3, b1]
    exact ⟨rfl, rfl⟩
theorem all_in (L : List (Addr × κ)) : (List.range L.length).filterMap (fun i => L[i]?) = L := by
  apply List.ext_getElem?
  intro j
  have h : ∀ n, n ≤ L.length → (List.range n).filterMap (fun i => L[i]?) = L.take n := fun n => by
    induction n with
    | zero => intro _; rfl
    | succ n ih =>
      intro hn
      rw [List.range_succ, List.filterMap_append, ih (by omega), List.take_succ, List.getElem?_eq_getElem (by omega)]
      congr 1
      rw [List.filterMap_cons_some (List.getElem?_eq_getElem (by omega))]
      rfl
  rw [h _ (Nat.le_refl _), List.take_length]
/-- the table laid anew, larger -/
theorem layAgain {o : Obj} (ho : s.heap.get? a = some o) (hex : o.ExactSet) (hd : o.data = .set es ep t) (hes : es.toList = rws T.toElt L) (hsz : t.place.size = es.size) (hdm : t.dummies = #[]) (hfl : es.size ≤ t.mask)
    (nd : (L.map (·.2)).Nodup) (elt : ∀ p ∈ L, T.is s.heap p.2 p.1) (ld : w.params.followText "set-order" = true ∨ t.led = true) (few : L.length < 64) {want M : Nat}
    (hw : SetTable.sizeAbove want - 1 = M) (hM : MaskOk M) (hw2 : SetTable.sizeAbove want ≤ 128) (hn : L.length * 5 < M * 3) {Q : Unit → Shared → Prop}
    (hQ : ∀ h' L' es' ep' t', Heap.SameBut a s.heap h' → SetG T.toElt h' a L' es' ep' t' → L'.Perm L → Q () { s with heap := h' }) : wpAny (model P w) A (setRelay a want) Q E s := by
  have sl : es.size = L.length := by rw [← Array.length_toList, hes, rws_len]
  have fits : t.fits es.size = true := by
    unfold SetTable.fits SetTable.fill
    rw [hdm, Bool.and_eq_true]
    exact ⟨beq_iff_eq.mpr hsz, decide_eq_true (by show t.place.size + 0 ≤ t.mask; omega)⟩
  obtain ⟨t', ord, e, hp, TT, em, el, epl, _⟩ := relaid_ok t (hs := es.map (·.1)) (wanted := want) hw hM (by rw [Array.size_map]; omega)
  rw [Array.size_map, sl] at hp
  obtain ⟨r1, r3⟩ := picks L hes ord.toList fun i hi => List.mem_range.mp (hp.mem_iff.mp hi)
  have r2 : (ord.toList.filterMap fun i => L[i]?).Perm L := by
    have z := hp.filterMap fun i => L[i]?
    rw [all_in] at z
    exact z
  generalize ord.toList.filterMap (fun i => L[i]?) = L2 at r1 r2 r3
  rw [← r3] at TT
  have eo : (ord.filterMap (es[·]?)).toList = rws T.toElt L2 := by
    rw [← r1]
    first | exact Array.toList_filterMap | simp
  have so : (ord.filterMap (es[·]?)).size = es.size := by rw [← Array.length_toList, eo, rws_len, r2.length_eq, sl]
  rw [setRelay_eq]
  refine wpAny_bind (wpAny_setState_of ho hd fits ?_)
  dsimp only
  refine wp_if_neg (by rw [sizeLine_eq]; omega) ?_
  try refine wpAny_bind (wpAny_pure ?_)
  rw [e]
  refine wpAny_bind (wp_if_neg (by rw [so]; simp) ?_)
  try refine wpAny_bind (wpAny_pure ?_)
  refine wpAny_pure ?_
  dsimp only
  have same : Heap.SameBut a s.heap (s.heap.update a (Obj.putSet (ord.filterMap (es[·]?)) t')) := Heap.SameBut.update ..
  refine wpAny_storeSet_of ho hd (hQ _ L2 _ (ep + 1) t' same ⟨⟨_, store_at ho hd, ⟨hex.1, hex.2.1, hex.2.2⟩, rfl⟩, eo, TT, (r2.map (·.2)).nodup_iff.mpr nd, fun p m => T.off (elt p (r2.mem_iff.mp m)) ho hd same, ?_, ?_, ?_⟩ r2) ?_
  · rw [el]; exact ld
  · rw [r2.length_eq, em]; exact hn
  · rw [r2.length_eq]; exact few
  · rw [so, sl, sizeLine_eq]; omega
end
end DS

namespace DS
open PySem PySem.Spec PyProof.Rows L2
section
variable {P : Program} {w : World} {κ : Type} [DecidableEq κ] {T : EltA P w κ} {A : Around} {E : Value → Shared → Prop} {s : Shared} {a : Addr} {L : List (Addr × κ)} {es : Array (Int × Value)} {ep : Nat} {t : SetTable}
theorem rws_ins (L : List (Addr × κ)) (p : Nat) (x : Addr) (k : κ) : (rws T.toElt L).take p ++ (T.hash k, Value.ref x) :: (rws T.toElt L).drop p = rws T.toElt (L.take p ++ (x, k) :: L.drop p) := by
  simp [rws, List.map_take, List.map_drop]
/-- a thing is put in -/
theorem addAt (R : SetG T.toElt s.heap a L es ep t) {x : Addr} {k : κ} (hx : T.is s.heap k x) (hu : A.units < cLine) (hfew0 : k ∉ L.map (·.2) → L.length + 1 < 64) {Q : Bool → Shared → Prop}
    (hQ : ∀ b h' L' es' ep' t', Heap.SameBut a s.heap h' → SetG T.toElt h' a L' es' ep' t' → (k ∈ L.map (·.2) → L' = L) → (k ∉ L.map (·.2) → L'.Perm ((x, k) :: L)) → Q b { s with heap := h' }) :
    wpAny (model P w) A (setAddHashed a (.ref x) (T.hash k)) Q E s := by
  obtain ⟨o, ho, hex, hd⟩ := R.ob
  have sl := R.size
  have room := R.room
  unfold setAddHashed
  refine wpAny_holding ?_
  rw [show (100000 : Nat) = 99999 + 1 from rfl, setAddHashedIn_succ]
  refine wpAny_bind (wpAny_setState_of ho hd R.fits ?_)
  dsimp only
  refine wp_if_neg (by simp [byScan, Value.scannable]) ?_
  try refine wpAny_bind (wpAny_pure ?_)
  refine wpAny_bind (findAt R hx hu (fun hm => ?_) fun n hm free full => ?_)
  · exact wpAny_pure (hQ false s.heap L es ep t (Heap.SameBut.refl a s.heap) R (fun _ => rfl) fun z => absurd hm z)
  have hfew := hfew0 hm
  refine wpAny_bind (wpAny_setState_of ho hd R.fits ?_)
  dsimp only
  obtain ⟨q1, q2, q3, q4, q5, q6, q7, q8, q9⟩ := R.tab.put free full
  generalize t.put (way t.mask (T.hash k) n) = pt at q1 q3 q4 q5 q6 q7 q8 q9 ⊢
  obtain ⟨t1, p⟩ := pt
  dsimp only at q1 q3 q4 q5 q6 q7 q8 q9 ⊢
  subst q1
  have both : ∀ M : Bool → Sem Bool, (∀ bv, wpAny (model P w) A (M bv) Q E s) → wpAny (model P w) A (if t1.plain = true then hashByValue 8 (.ref x) >>= M else pure true >>= M) Q E s := fun M hM => by
    by_cases pl : t1.plain = true
    · exact wp_if_pos pl (wpAny_bind (T.byVal hx hM))
    · exact wp_if_neg pl (wpAny_bind (wpAny_pure (hM true)))
  refine both _ fun bv => ?_
  obtain ⟨t2, et, u3, u4, u5, u9, u10⟩ : ∃ t2, (if bv = true then t1 else { t1 with plain := false }) = t2 ∧ TabOk t2 _ ∧ t2.mask = t.mask ∧ t2.led = t.led ∧ t2.tooFull = t1.tooFull ∧ t2.place = t1.place := by
    cases bv with
    | true => exact ⟨t1, rfl, q3, q4, q5, rfl, rfl⟩
    | false => exact ⟨{ t1 with plain := false }, rfl, ⟨q3.1, q3.2, q3.3, q3.4, q3.5, q3.6⟩, q4, q5, rfl, rfl⟩
  rw [et]
  clear et
  have rin : (SetTable.insertAt es (SetTable.below t.place (way t.mask (T.hash k) n)) (T.hash k, Value.ref x)).toList = rws T.toElt (L.take (SetTable.below t.place (way t.mask (T.hash k) n)) ++ (x, k) :: L.drop (SetTable.below t.place (way t.mask (T.hash k) n))) := by
    rw [SetTable.toList_insertAt, R.rows, rws_ins]
  generalize SetTable.below t.place (way t.mask (T.hash k) n) = p at q2 u3 rin ⊢
  have pm : (L.take p ++ (x, k) :: L.drop p).Perm ((x, k) :: L) := put_perm L p (x, k)
  have hh : (L.map fun p => T.hash p.2).take p ++ T.hash k :: (L.map fun p => T.hash p.2).drop p = (L.take p ++ (x, k) :: L.drop p).map fun p => T.hash p.2 := by simp [List.map_take, List.map_drop]
  rw [hh] at u3
  generalize L.take p ++ (x, k) :: L.drop p = L1 at pm u3 rin
  have l1 : L1.length = L.length + 1 := pm.length_eq
  have nd1 : (L1.map (·.2)).Nodup := (pm.map (·.2)).nodup_iff.mpr (List.nodup_cons.mpr ⟨hm, R.nd⟩)
  have es1l : (SetTable.insertAt es p (T.hash k, Value.ref x)).size = L.length + 1 := by rw [← Array.length_toList, rin, rws_len, l1]
  generalize SetTable.insertAt es p (T.hash k, Value.ref x) = es1 at rin es1l ⊢
  refine wpAny_bind (wpAny_storeSet_of ho hd ?_ (by rw [es1l, sizeLine_eq]; omega))
  have same : Heap.SameBut a s.heap (s.heap.update a (Obj.putSet es1 t2)) := Heap.SameBut.update ..
  have ho1 := store_at (es' := es1) (t' := t2) ho hd
  generalize s.heap.update a (Obj.putSet es1 t2) = h1 at same ho1 ⊢
  have elt1 : ∀ p ∈ L1, T.is h1 p.2 p.1 := fun p hp => by
    rcases List.mem_cons.mp (pm.mem_iff.mp hp) with e | hp
    · subst e; exact T.off hx ho hd same
    · exact T.off (R.elt p hp) ho hd same
  have ld1 : w.params.followText "set-order" = true ∨ t2.led = true := by rw [u5]; exact R.led
  have full5 : t2.tooFull = decide ((L.length + 1) * 5 ≥ t2.mask * 3) := by
    rw [u9]
    unfold SetTable.tooFull
    rw [q9, List.length_map, q4, u4]
  by_cases hf : t2.tooFull = true
  · have big : (L.length + 1) * 5 ≥ t2.mask * 3 := by rw [full5] at hf; exact of_decide_eq_true hf
    have pz : t2.place.size = es1.size := by
      have z := u3.sz
      rw [List.length_map, l1] at z
      rw [z, es1l]
    have two : (t.mask = 7 ∧ L.length = 4) ∨ (t.mask = 31 ∧ L.length = 18) := by
      rw [u4] at big
      rcases R.tab.mok with e | e | e
      · exact .inl ⟨e, by omega⟩
      · exact .inr ⟨e, by omega⟩
      · omega
    first
      | (refine wpAny_bind ?_; refine wp_if_pos (by simp [hf]) ?_)
      | (refine wp_if_pos (by simp [hf]) ?_; refine wpAny_bind ?_)
    rw [sl]
    have lay : ∀ M, SetTable.sizeAbove (SetTable.grown (L.length + 1)) - 1 = M → MaskOk M → SetTable.sizeAbove (SetTable.grown (L.length + 1)) ≤ 128 → (L.length + 1) * 5 < M * 3 →
        wpAny (model P w) A (setRelay a (SetTable.grown (L.length + 1))) (fun _ s' => wpAny (model P w) A (pure true) Q E s') E { s with heap := h1 } := fun M m1 m2 m3 m4 =>
      layAgain (T := T) (s := { s with heap := h1 }) ho1 ⟨hex.1, hex.2.1, hex.2.2⟩ rfl rin pz u3.dm (by rw [es1l, u4]; omega) nd1 elt1 ld1 (by rw [l1]; exact hfew) m1 m2 m3 (by rw [l1]; exact m4)
        fun h2 L2 es2 ep2 t2 sb2 R2 pm2 => wpAny_pure (hQ true h2 L2 es2 ep2 t2 (same.trans sb2) R2 (fun z => absurd z hm) fun _ => pm2.trans pm)
    rcases two with ⟨_, e⟩ | ⟨_, e⟩
    · exact lay 31 (by rw [e, size_20]) (.inr (.inl rfl)) (by rw [e, size_20]; decide) (by omega)
    · exact lay 127 (by rw [e, size_76]) (.inr (.inr rfl)) (by rw [e, size_76]; decide) (by omega)
  · have small : (L.length + 1) * 5 < t2.mask * 3 := by
      rw [full5, decide_eq_true_eq] at hf
      omega
    first
      | refine wp_if_neg (by simp [hf]) ?_
      | (refine wpAny_bind ?_; refine wp_if_neg (by simp [hf]) ?_; refine wpAny_pure ?_)
    exact wpAny_pure (hQ true h1 L1 es1 (ep + 1) t2 same ⟨⟨_, ho1, ⟨hex.1, hex.2.1, hex.2.2⟩, rfl⟩, rin, u3, nd1, elt1, ld1, by rw [l1]; exact small, by rw [l1]; exact hfew⟩ (fun z => absurd z hm) fun _ => pm)
end
end DS

/-! .. all things of a walk put in -/
namespace DS
open PySem PySem.Spec PyProof.Rows L2
structure EltH (P : Program) (w : World) (κ : Type) [DecidableEq κ] extends EltA P w κ where
  up : ∀ {h h' : Heap} {k : κ} {b : Addr}, is h k b → (∀ c o, h.get? c = some o → h'.get? c = some o) → is h' k b
  hsh : ∀ {A : Around} {E : Value → Shared → Prop} {s : Shared} {k : κ} {x : Addr} {Q : Int → Shared → Prop}, A.units < cLine → is s.heap k x → (∀ tk, s.toks ≤ tk → Q (hash k) { s with toks := tk }) → wpAny (model P w) A (pyHash (.ref x)) Q E s
/-- fewer than 64 different ones -/
def FewK {κ : Type} (ks : List (Addr × κ)) : Prop := ∃ U : List κ, U.length < 64 ∧ ∀ p ∈ ks, p.2 ∈ U
theorem sub_len {κ : Type} [DecidableEq κ] : ∀ (l U : List κ), l.Nodup → (∀ x ∈ l, x ∈ U) → l.length ≤ U.length
  | [], _, _, _ => Nat.zero_le _
  | x :: l, U, nd, h => by
    obtain ⟨h1, h2⟩ := List.nodup_cons.mp nd
    have hx : x ∈ U := h x List.mem_cons_self
    have := sub_len l (U.erase x) h2 fun y hy => (List.mem_erase_of_ne (fun e : y = x => h1 (by rw [← e]; exact hy))).mpr (h y (List.mem_cons_of_mem _ hy))
    rw [List.length_erase_of_mem hx] at this
    have pos : 0 < U.length := List.length_pos_of_mem hx
    rw [List.length_cons]
    omega
structure Brought {κ : Type} (ks : List (Addr × κ)) (i : Nat) (L : List (Addr × κ)) : Prop where
  from_ : ∀ p ∈ L, p ∈ ks.take i
  all : ∀ p ∈ ks.take i, p.2 ∈ L.map (·.2)
  few : L.length ≤ i
theorem Brought.none {κ : Type} (ks : List (Addr × κ)) : Brought ks 0 [] := ⟨by simp, by simp, Nat.le_refl _⟩
section
variable {κ : Type} {ks L L' : List (Addr × κ)} {i : Nat} {x : Addr × κ}
theorem tk_succ (h : ks[i]? = some x) : ks.take (i + 1) = ks.take i ++ [x] := by rw [List.take_succ, h]; rfl
theorem Brought.old (g : Brought ks i L) (h : ks[i]? = some x) (m : x.2 ∈ L.map (·.2)) : Brought ks (i + 1) L := by
  refine ⟨fun p hp => by rw [tk_succ h]; exact List.mem_append_left _ (g.from_ p hp), fun p hp => ?_, Nat.le_succ_of_le g.few⟩
  rw [tk_succ h] at hp
  rcases List.mem_append.mp hp with z | z
  · exact g.all p z
  · rw [List.mem_singleton.mp z]; exact m
theorem Brought.new (g : Brought ks i L) (h : ks[i]? = some x) (pm : L'.Perm (x :: L)) : Brought ks (i + 1) L' := by
  refine ⟨fun p hp => ?_, fun p hp => ?_, by rw [pm.length_eq]; exact Nat.succ_le_succ g.few⟩
  · rw [tk_succ h]
    rcases List.mem_cons.mp (pm.mem_iff.mp hp) with e | z
    · subst e; exact List.mem_append_right _ List.mem_cons_self
    · exact List.mem_append_left _ (g.from_ p z)
  · rw [tk_succ h] at hp
    refine (pm.map (·.2)).mem_iff.mpr ?_
    rcases List.mem_append.mp hp with z | z
    · exact List.mem_cons_of_mem _ (g.all p z)
    · rw [List.mem_singleton.mp z]; exact List.mem_cons_self
end
section
variable {P : Program} {w : World} {κ : Type} [DecidableEq κ] {T : EltH P w κ} {A : Around}
theorem SetG.up {h h' : Heap} {a : Addr} {L : List (Addr × κ)} {es : Array (Int × Value)} {ep : Nat} {t : SetTable} (R : SetG T.toElt h a L es ep t) (ha : ∀ o, h.get? a = some o → h'.get? a = some o) (hk : ∀ p ∈ L, T.is h' p.2 p.1) : SetG T.toElt h' a L es ep t :=
  have ⟨o, ho, r⟩ := R.ob
  { R with ob := ⟨o, ha o ho, r⟩, elt := hk }
theorem SetG.empty {h : Heap} {a : Addr} (ho : h.get? a = some { cls := .type "set", dict := none, data := .set #[] 0 (.fresh 0 0 (!w.params.followText "set-order")) }) : SetG T.toElt h a [] #[] 0 (.fresh 0 0 (!w.params.followText "set-order")) := by
  refine ⟨⟨_, ho, ⟨rfl, rfl, rfl⟩, rfl⟩, rfl, ⟨List.Pairwise.nil, rfl, rfl, .inl rfl, fun x hx => (by cases hx), fun i h j hi => (by simp at hi)⟩, List.nodup_nil, fun p hp => (by cases hp), ?_, (by decide : 0 * 5 < 7 * 3), (by decide : 0 < 64)⟩
  cases hs : w.params.followText "set-order" with
  | true => exact .inl rfl
  | false => exact .inr rfl
/-- the loop of set.update -/
theorem putAll {I : Addr} {fp wr : List Addr} {G : Array GenState → Array GenState → Prop} {n : Nat} {Pv : Nat → Value → Prop} {St : Nat → Shared → Prop} {R : Result → Shared → Prop} (W : WalksS P w A.in1 I fp wr G n Pv St) (S : Addr) (hSf : S ∉ fp) (ks : List (Addr × κ)) (hn : n = ks.length) (hfew : FewK ks)
    (hval : ∀ i v, Pv i v → ∃ p, ks[i]? = some p ∧ v = .ref p.1) (h0 : Heap) (hk : ∀ p ∈ ks, T.is h0 p.2 p.1) (hS0 : h0.get? S = none) (hw0 : ∀ b ∈ wr, h0.get? b = none) (hu : A.in1.units < cLine) :
    ∀ (m i : Nat) (s : Shared), n - i = m → i ≤ n → St i s → (∀ b o, h0.get? b = some o → s.heap.get? b = some o) → (∃ L es ep t, SetG T.toElt s.heap S L es ep t ∧ Brought ks i L) →
      (∀ s' L es ep t, Moved (S :: wr) G s s' → SetG T.toElt s'.heap S L es ep t → Brought ks n L → (∀ b o, h0.get? b = some o → s'.heap.get? b = some o) → R (.ok (.ret .none)) s') →
      codeAny (model P w) A (.builtin "set.update.loop" ⟨[.ref S, .ref I], []⟩) R s := by
  have nSw : S ∉ wr := fun h => hSf (W.sub _ h)
  have wider : ∀ b ∈ wr, b ∈ S :: wr := fun b hb => List.mem_cons_of_mem _ hb
  have base : ∀ {s s' : Shared}, Moved wr G s s' → (∀ b o, h0.get? b = some o → s.heap.get? b = some o) → ∀ b o, h0.get? b = some o → s'.heap.get? b = some o := fun mv kp b o e => mv.heap b o (fun hb => by rw [hw0 b hb] at e; cases e) (kp b o e)
  intro m
  induction m with
  | zero =>
    intro i s hm hi hst kp ⟨L, es, ep, t, hS, g⟩ hR
    obtain rfl : i = n := by omega
    refine codeAny_builtin F.entry_set_update_loop ?_
    rw [Around.under_plainId F.plain_set_update_loop _]
    show wpAny _ A.in1 (pyNext (.ref I) >>= _) _ _ s
    refine wpAny_bind (W.done s _ _ hst fun s' mv => ?_)
    have kp' := base mv kp
    exact wpAny_pure (hR s' L es ep t (mv.mono wider) (hS.up (fun o e => mv.heap S o nSw e) fun p hp => T.up (hk p (List.mem_of_mem_take (g.from_ p hp))) kp') g kp')
  | succ m ih =>
    intro i s hm hi hst kp ⟨L, es, ep, t, hS, g⟩ hR
    have hlt : i < n := by omega
    refine codeAny_builtin F.entry_set_update_loop ?_
    rw [Around.under_plainId F.plain_set_update_loop _]
    show wpAny _ A.in1 (pyNext (.ref I) >>= _) _ _ s
    refine wpAny_bind (W.item i s _ _ hlt hst fun v s' hP hst' mv => ?_)
    obtain ⟨p, hp, rfl⟩ := hval i v hP
    have kp' := base mv kp
    have hS' : SetG T.toElt s'.heap S L es ep t := hS.up (fun o e => mv.heap S o nSw e) fun q hq => T.up (hk q (List.mem_of_mem_take (g.from_ q hq))) kp'
    have hx : T.is s'.heap p.2 p.1 := T.up (hk p (List.mem_of_getElem? hp)) kp'
    have gl := g.few
    show wpAny _ A.in1 (holding [Value.ref p.1] (setAdd S (.ref p.1)) >>= _) _ _ s'
    refine wpAny_bind (wpAny_holding ?_)
    unfold setAdd
    refine wpAny_holding (wpAny_bind (T.hsh hu hx fun tk htk => ?_))
    have lim : p.2 ∉ L.map (·.2) → L.length + 1 < 64 := fun hne => by
      obtain ⟨U, hU, hin⟩ := hfew
      have := sub_len (p.2 :: L.map (·.2)) U (List.nodup_cons.mpr ⟨hne, hS'.nd⟩) fun y hy => by
        rcases List.mem_cons.mp hy with rfl | hy
        · exact hin p (List.mem_of_getElem? hp)
        · obtain ⟨q, hq, rfl⟩ := List.mem_map.mp hy
          exact hin q (List.mem_of_mem_take (g.from_ q hq))
      rw [List.length_cons, List.length_map] at this
      omega
    refine addAt (T := T.toEltA) (s := { s' with toks := tk }) hS' hx hu lim fun b h' L' es' ep' t' sb hS2 c1 c2 => ?_
    have g' : Brought ks (i + 1) L' := by
      by_cases c : p.2 ∈ L.map (·.2)
      · rw [c1 c]; exact g.old hp c
      · exact g.new hp (c2 c)
    have kp2 : ∀ b o, h0.get? b = some o → h'.get? b = some o := fun b o e => (sb.2 b (fun z => by rw [z, hS0] at e; cases e)).trans (kp' b o e)
    refine wpAny_pure ⟨plainId_quiet F.plain_set_update_loop _, ih (i + 1) _ (by omega) hlt (W.frame _ s' _ _ hst' htk fun b hb o e => ?_) kp2 ⟨L', es', ep', t', hS2, g'⟩ fun s2 L2 es2 ep2 t2 mv2 hS3 g3 kp3 => ?_⟩
    · rw [sb.2 b (fun z : b = S => hSf (z ▸ hb))]; exact e
    · refine hR s2 L2 es2 ep2 t2 (Moved.trans W.gtrans ((mv.mono wider).then_heap htk fun b o hb e => ?_) mv2) hS3 g3 kp3
      rw [sb.2 b (fun z : b = S => hb (by rw [z]; exact List.mem_cons_self))]; exact e
end
end DS

/-! set(xs), xs a list or a tuple of things -/
namespace DS
open PySem PySem.Spec PyProof.Rows L2
abbrev newS (w : World) : Obj := { cls := .type "set", dict := none, data := .set #[] 0 (.fresh 0 0 (!w.params.followText "set-order")) }
section
variable {P : Program} {w : World} {κ : Type} [DecidableEq κ] {T : EltH P w κ} {A : Around} {E : Value → Shared → Prop} {s : Shared}
theorem vals_at {items : Array Value} {ks : List (Addr × κ)} (hit : items.toList = ks.map fun p => Value.ref p.1) (i : Nat) (v : Value) (e : items[i]? = some v) : ∃ p, ks[i]? = some p ∧ v = .ref p.1 := by
  rw [← Array.getElem?_toList, hit, List.getElem?_map] at e
  cases z : ks[i]? with
  | none => rw [z] at e; cases e
  | some p => rw [z] at e; exact ⟨p, rfl, (Option.some.inj e).symm⟩
theorem none_at {h : Heap} {b : Addr} (hb : h.objs.size ≤ b) : h.get? b = none := by
  cases e : h.get? b with
  | none => rfl
  | some o => exact absurd (Heap.lt_size e) (Nat.not_lt.mpr hb)
/-- set.__init__ of a new set and a list -/
theorem init_ok {l : Addr} {items : Array Value} (ks : List (Addr × κ)) (hh : A.handled = none) (hl : s.heap.IsList l items) (hit : items.toList = ks.map fun p => Value.ref p.1) (hk : ∀ p ∈ ks, T.is s.heap p.2 p.1) (hfew : FewK ks) (hu : A.units + 3 < cLine)
    {F1 : Fin → Shared → Prop} {F2 : Value → Shared → Prop} (hR : ∀ h' tk L es ep t, SetG T.toElt h' s.heap.objs.size L es ep t → Brought ks ks.length L → (∀ b o, s.heap.get? b = some o → h'.get? b = some o) → F1 (.done (.ret .none)) { s with heap := h', toks := tk }) :
    wpAny (model P w) A.in1.in1 (Builtin.«set.__init__» ⟨[.ref s.heap.objs.size, .ref l], []⟩) F1 F2 { s with heap := s.heap.push (newS w) } := by
  have isz : items.size = ks.length := by rw [← Array.length_toList, hit, List.length_map]
  have hS : (s.heap.push (newS w)).get? s.heap.objs.size = some (newS w) := Heap.get?_push_size _ rfl
  obtain ⟨ol, hol, hcl, nl, hdl⟩ := hl
  obtain ⟨ocls, odict, odata, oslots⟩ := ol
  simp only at hcl hdl
  subst hcl; subst hdl
  have hol' : (s.heap.push (newS w)).get? l = some { cls := .type "list", dict := odict, data := .seq items nl, slots := oslots } := Heap.get?_push_of_some _ hol
  have hl1 : (s.heap.push (newS w)).IsList l items := ⟨_, hol', rfl, nl, rfl⟩
  have z1 := F.sub_list_set
  have z2 := F.sub_list_frozenset
  have z3 : (Value.type "list" == Value.type "dict") = false := by decide
  have lS : l < s.heap.objs.size := Heap.lt_size hol
  unfold Builtin.«set.__init__» noKeywords Builtin.Frozenset.updateFrom
  generalize hPI : pyIter = PI
  wp_walk
  subst hPI
  refine wpAny_pyIter_list hl1 (wpAny_bind (wpAny_runValue ?_))
  have sz : (s.heap.push (newS w)).objs.size = s.heap.objs.size + 1 := Heap.size_push ..
  refine putAll (T := T) ((Walks.list (by simp [hh]) _ l (by rw [sz]; exact Nat.ne_of_lt (Nat.lt_succ_of_lt lS)) items).toS) s.heap.objs.size (by rw [sz]; simp only [List.mem_cons, List.not_mem_nil, or_false, not_or]; exact ⟨Nat.ne_of_lt (Nat.lt_succ_self _), Nat.ne_of_gt lS⟩) ks isz hfew (vals_at hit) s.heap hk (none_at (Nat.le_refl _)) (fun b hb => none_at (by rw [List.mem_singleton.mp hb, sz]; exact Nat.le_succ _)) hu (items.size - 0) 0 _ (by omega) (Nat.zero_le _)
    ⟨⟨_, Heap.get?_push_size _ rfl, rfl, rfl⟩, (hl1.push _)⟩ (fun b o e => Heap.get?_push_of_some _ (Heap.get?_push_of_some _ e)) ⟨[], #[], 0, _, SetG.empty (T := T) (Heap.get?_push_of_some _ hS), Brought.none ks⟩ fun s' L es ep t mv hS' g' kp => ?_
  obtain ⟨h', g2, d', tk', os'⟩ := s'
  obtain rfl : g2 = s.gens := mv.gens
  obtain rfl : d' = s.drawn := mv.drawn
  obtain rfl : os' = s.os := mv.os
  rw [isz] at g'
  exact wpAny_pure (wpAny_pure (hR h' tk' L es ep t hS' g' kp))
theorem setOfList {l : Addr} {items : Array Value} (ks : List (Addr × κ)) {Q : Value → Shared → Prop} (hh : A.handled = none) (hl : s.heap.IsList l items) (hit : items.toList = ks.map fun p => Value.ref p.1) (hk : ∀ p ∈ ks, T.is s.heap p.2 p.1) (hfew : FewK ks) (hu : A.units + 3 < cLine)
    (h : ∀ (h' : Heap) (tk : Nat) L es ep t, SetG T.toElt h' s.heap.objs.size L es ep t → Brought ks ks.length L → (∀ b o, s.heap.get? b = some o → h'.get? b = some o) → Q (.ref s.heap.objs.size) { s with heap := h', toks := tk }) :
    wpAny (model P w) A (call (.type "set") [.ref l]) Q E s := by
  have isz : items.size = ks.length := by rw [← Array.length_toList, hit, List.length_map]
  obtain ⟨c0, tl0, w1⟩ := F.called_set.mro
  have w2 := F.called_set.made
  have w3 := F.called_set.sub
  have w4 := F.called_set.notType
  have w5 := F.called_set.canCreate
  have w6 := F.typeCall_set_1 (.ref l)
  have hS : (s.heap.push (newS w)).get? s.heap.objs.size = some (newS w) := Heap.get?_push_size _ rfl
  have back : codeAny (model P w) A.in1 (.call (.builtin "set.__init__") ⟨[.ref s.heap.objs.size, .ref l], []⟩) (wants (fun r s₂ => r = .none ∧ ∃ h' tk L es ep t, s₂ = { s with heap := h', toks := tk } ∧ SetG T.toElt h' s.heap.objs.size L es ep t ∧ Brought ks ks.length L ∧ ∀ b o, s.heap.get? b = some o → h'.get? b = some o) E) { s with heap := s.heap.push (newS w) } := by
    refine codeAny_call_builtin F.called_set.init.plain F.entry_set_init (check_set_init_1 ⟨_, hS, rfl⟩ ?_)
    exact init_ok (T := T) ks hh hl hit hk hfew hu fun h' tk L es ep t b1 b2 b3 => ⟨rfl, h', tk, L, es, ep, t, rfl, b1, b2, b3⟩
  refine wpAny_call (codeAny_of_tree ?_)
  show wpAny _ _ (callAny (.type "set") _) _ _ _
  refine wpAny_pure ⟨Code.quiet_builtin _ (by decide +kernel), codeAny_builtin F.entry_type_call ?_⟩
  rw [Around.under_plain (weight_type_call_type "set" [.ref l] []) rfl]
  repeat (any_goals (first | assumption | wp_step))
  refine codeAny_mono (code_set_led1 (.ref l) (E := E) (Q₁ := fun obj s₁ => obj = .ref s.heap.objs.size ∧ s₁ = { s with heap := s.heap.push (newS w) }) ⟨rfl, rfl⟩) fun r s₁ hr => ?_
  match r, hr with
  | .error e, hr => exact hr
  | .ok (.ret obj), hr =>
    obtain ⟨rfl, rfl⟩ := hr
    have w7 : Shared.TypeIs { s with heap := s.heap.push (newS w) } (.ref s.heap.objs.size) "set" := ⟨_, hS, rfl⟩
    have w8 := F.called_set.init.lookup
    have w9 := F.called_set.init.bind (.ref s.heap.objs.size)
    repeat (any_goals (first | assumption | wp_step))
    refine codeAny_mono back fun r₂ s₂ hr₂ => ?_
    match r₂, hr₂ with
    | .error e, hr₂ => exact hr₂
    | .ok (.ret z), hr₂ =>
      obtain ⟨rfl, h', tk, L, es, ep, t, rfl, b1, b2, b3⟩ := hr₂
      repeat (any_goals (first | assumption | wp_step))
      exact h _ _ _ _ _ _ b1 b2 b3
    | .ok .next, hr₂ => exact hr₂.elim
    | .ok .brk, hr₂ => exact hr₂.elim
    | .ok .cont, hr₂ => exact hr₂.elim
  | .ok .next, hr => exact hr.elim
  | .ok .brk, hr => exact hr.elim
  | .ok .cont, hr => exact hr.elim
end
end DS

namespace DS
open PySem PySem.Spec PyProof.Rows L2
section
variable {P : Program} {w : World} {κ : Type} [DecidableEq κ] {T : EltH P w κ} {A : Around} {E : Value → Shared → Prop} {s : Shared}
/-- set.__init__ of a new set and a tuple -/
theorem init_okT {l : Addr} {items : Array Value} (ks : List (Addr × κ)) (hh : A.handled = none) (hl : s.heap.IsTuple l items) (hit : items.toList = ks.map fun p => Value.ref p.1) (hk : ∀ p ∈ ks, T.is s.heap p.2 p.1) (hfew : FewK ks) (hu : A.units + 3 < cLine)
    {F1 : Fin → Shared → Prop} {F2 : Value → Shared → Prop} (hR : ∀ h' tk L es ep t, SetG T.toElt h' s.heap.objs.size L es ep t → Brought ks ks.length L → (∀ b o, s.heap.get? b = some o → h'.get? b = some o) → F1 (.done (.ret .none)) { s with heap := h', toks := tk }) :
    wpAny (model P w) A.in1.in1 (Builtin.«set.__init__» ⟨[.ref s.heap.objs.size, .ref l], []⟩) F1 F2 { s with heap := s.heap.push (newS w) } := by
  have isz : items.size = ks.length := by rw [← Array.length_toList, hit, List.length_map]
  have hS : (s.heap.push (newS w)).get? s.heap.objs.size = some (newS w) := Heap.get?_push_size _ rfl
  obtain ⟨ol, hol, hcl, nl, hdl⟩ := hl
  obtain ⟨ocls, odict, odata, oslots⟩ := ol
  simp only at hcl hdl
  subst hcl; subst hdl
  have hol' : (s.heap.push (newS w)).get? l = some { cls := .type "tuple", dict := odict, data := .seq items nl, slots := oslots } := Heap.get?_push_of_some _ hol
  have hl1 : (s.heap.push (newS w)).IsTuple l items := ⟨_, hol', rfl, nl, rfl⟩
  have z1 := F.sub_tuple_set
  have z2 := F.sub_tuple_frozenset
  have z3 : (Value.type "tuple" == Value.type "dict") = false := by decide
  have lS : l < s.heap.objs.size := Heap.lt_size hol
  unfold Builtin.«set.__init__» noKeywords Builtin.Frozenset.updateFrom
  generalize hPI : pyIter = PI
  wp_walk
  subst hPI
  refine wpAny_pyIter_tuple hl1 (wpAny_bind (wpAny_runValue ?_))
  have sz : (s.heap.push (newS w)).objs.size = s.heap.objs.size + 1 := Heap.size_push ..
  refine putAll (T := T) ((Walks.tuple (by simp [hh]) _ l (by rw [sz]; exact Nat.ne_of_lt (Nat.lt_succ_of_lt lS)) items).toS) s.heap.objs.size (by rw [sz]; simp only [List.mem_cons, List.not_mem_nil, or_false, not_or]; exact ⟨Nat.ne_of_lt (Nat.lt_succ_self _), Nat.ne_of_gt lS⟩) ks isz hfew (vals_at hit) s.heap hk (none_at (Nat.le_refl _)) (fun b hb => none_at (by rw [List.mem_singleton.mp hb, sz]; exact Nat.le_succ _)) hu (items.size - 0) 0 _ (by omega) (Nat.zero_le _)
    ⟨⟨_, Heap.get?_push_size _ rfl, rfl, rfl⟩, (hl1.push _)⟩ (fun b o e => Heap.get?_push_of_some _ (Heap.get?_push_of_some _ e)) ⟨[], #[], 0, _, SetG.empty (T := T) (Heap.get?_push_of_some _ hS), Brought.none ks⟩ fun s' L es ep t mv hS' g' kp => ?_
  obtain ⟨h', g2, d', tk', os'⟩ := s'
  obtain rfl : g2 = s.gens := mv.gens
  obtain rfl : d' = s.drawn := mv.drawn
  obtain rfl : os' = s.os := mv.os
  rw [isz] at g'
  exact wpAny_pure (wpAny_pure (hR h' tk' L es ep t hS' g' kp))
theorem setOfTup {l : Addr} {items : Array Value} (ks : List (Addr × κ)) {Q : Value → Shared → Prop} (hh : A.handled = none) (hl : s.heap.IsTuple l items) (hit : items.toList = ks.map fun p => Value.ref p.1) (hk : ∀ p ∈ ks, T.is s.heap p.2 p.1) (hfew : FewK ks) (hu : A.units + 3 < cLine)
    (h : ∀ (h' : Heap) (tk : Nat) L es ep t, SetG T.toElt h' s.heap.objs.size L es ep t → Brought ks ks.length L → (∀ b o, s.heap.get? b = some o → h'.get? b = some o) → Q (.ref s.heap.objs.size) { s with heap := h', toks := tk }) :
    wpAny (model P w) A (call (.type "set") [.ref l]) Q E s := by
  have isz : items.size = ks.length := by rw [← Array.length_toList, hit, List.length_map]
  obtain ⟨c0, tl0, w1⟩ := F.called_set.mro
  have w2 := F.called_set.made
  have w3 := F.called_set.sub
  have w4 := F.called_set.notType
  have w5 := F.called_set.canCreate
  have w6 := F.typeCall_set_1 (.ref l)
  have hS : (s.heap.push (newS w)).get? s.heap.objs.size = some (newS w) := Heap.get?_push_size _ rfl
  have back : codeAny (model P w) A.in1 (.call (.builtin "set.__init__") ⟨[.ref s.heap.objs.size, .ref l], []⟩) (wants (fun r s₂ => r = .none ∧ ∃ h' tk L es ep t, s₂ = { s with heap := h', toks := tk } ∧ SetG T.toElt h' s.heap.objs.size L es ep t ∧ Brought ks ks.length L ∧ ∀ b o, s.heap.get? b = some o → h'.get? b = some o) E) { s with heap := s.heap.push (newS w) } := by
    refine codeAny_call_builtin F.called_set.init.plain F.entry_set_init (check_set_init_1 ⟨_, hS, rfl⟩ ?_)
    exact init_okT (T := T) ks hh hl hit hk hfew hu fun h' tk L es ep t b1 b2 b3 => ⟨rfl, h', tk, L, es, ep, t, rfl, b1, b2, b3⟩
  refine wpAny_call (codeAny_of_tree ?_)
  show wpAny _ _ (callAny (.type "set") _) _ _ _
  refine wpAny_pure ⟨Code.quiet_builtin _ (by decide +kernel), codeAny_builtin F.entry_type_call ?_⟩
  rw [Around.under_plain (weight_type_call_type "set" [.ref l] []) rfl]
  repeat (any_goals (first | assumption | wp_step))
  refine codeAny_mono (code_set_led1 (.ref l) (E := E) (Q₁ := fun obj s₁ => obj = .ref s.heap.objs.size ∧ s₁ = { s with heap := s.heap.push (newS w) }) ⟨rfl, rfl⟩) fun r s₁ hr => ?_
  match r, hr with
  | .error e, hr => exact hr
  | .ok (.ret obj), hr =>
    obtain ⟨rfl, rfl⟩ := hr
    have w7 : Shared.TypeIs { s with heap := s.heap.push (newS w) } (.ref s.heap.objs.size) "set" := ⟨_, hS, rfl⟩
    have w8 := F.called_set.init.lookup
    have w9 := F.called_set.init.bind (.ref s.heap.objs.size)
    repeat (any_goals (first | assumption | wp_step))
    refine codeAny_mono back fun r₂ s₂ hr₂ => ?_
    match r₂, hr₂ with
    | .error e, hr₂ => exact hr₂
    | .ok (.ret z), hr₂ =>
      obtain ⟨rfl, h', tk, L, es, ep, t, rfl, b1, b2, b3⟩ := hr₂
      repeat (any_goals (first | assumption | wp_step))
      exact h _ _ _ _ _ _ b1 b2 b3
    | .ok .next, hr₂ => exact hr₂.elim
    | .ok .brk, hr₂ => exact hr₂.elim
    | .ok .cont, hr₂ => exact hr₂.elim
  | .ok .next, hr => exact hr.elim
  | .ok .brk, hr => exact hr.elim
  | .ok .cont, hr => exact hr.elim
end
end DS

/-! tuples of ints and texts as the things of a set -/
namespace DS
open PySem PySem.Spec PyProof.Rows L2
section
variable {P : Program} {w : World} {A : Around} {E : Value → Shared → Prop} {s : Shared}
/-- an int or a text -/
def flat1 : Value → Prop
  | .int _ _ => True
  | .str _ _ => True
  | _ => False
theorem items_flat {k : List Key} {vs : List Value} (h : ItemsAre (mixKind P w) k vs) : ∀ v ∈ vs, flat1 v := by
  induction h with
  | nil => intro v hv; cases hv
  | @cons k0 v' ks vs h1 _ ih =>
    intro v hv
    rcases List.mem_cons.mp hv with e | hv
    · subst e
      rcases keyIs_shape h1 with ⟨i, t, _, rfl⟩ | ⟨x, t, _, rfl⟩ <;> trivial
    · exact ih v hv
theorem noClass (n : Nat) {v : Value} (h : flat1 v) : ofAClassStatement n v = pure false := by
  cases v <;> first | exact h.elim | (cases n <;> rfl)
theorem byV (n : Nat) {v : Value} (h : flat1 v) : ∃ b, hashByValue n v = pure b := by
  cases v with
  | int i t => refine ⟨true, ?_⟩; cases n <;> rfl
  | str x t => refine ⟨false, ?_⟩; cases n <;> rfl
  | _ => exact h.elim
abbrev IsM (P : Program) (w : World) (h : Heap) (k : List Key) (a : Addr) : Prop := IsTupleKey (mixKind P w) h k a
theorem noClassT {k : List Key} {b : Addr} {Q : Bool → Shared → Prop} (hk : IsM P w s.heap k b) (h : Q false s) : wpAny (model P w) A (ofAClassStatement 8 (.ref b)) Q E s := by
  have ty := hk.typeIs
  obtain ⟨o, items, n, ho, _, hd, hi⟩ := hk
  unfold ofAClassStatement
  refine wpAny_bind (wpAny_typeOf ty ?_)
  simp only [show (("tuple" : String) == "tuple") = true by decide, if_true, Bool.not_true, Bool.false_eq_true, if_false]
  try refine wpAny_bind (wpAny_pure ?_)
  try simp only [Bool.not_true, Bool.false_eq_true, if_false]
  show wpAny _ _ (seqItems? (.ref b) >>= _) _ _ s
  refine wpAny_bind (wpAny_seqItems ho hd (wpAny_bind ?_))
  show wpAny _ _ (forIn items _ _) _ _ s
  rw [← Array.forIn_toList]
  refine wpAny_forIn_list _ (fun rest r s' => r.1 = none ∧ s' = s ∧ ∀ v ∈ rest, flat1 v) _ ?_ ?_ _ _ ⟨rfl, rfl, items_flat hi⟩
  · rintro v rest r s' ⟨hr, rfl, all⟩
    rw [noClass _ (all v List.mem_cons_self)]
    refine wpAny_bind (wpAny_pure ?_)
    simp only [Bool.false_eq_true, if_false]
    exact wpAny_pure ⟨rfl, rfl, fun u m => all u (List.mem_cons_of_mem _ m)⟩
  · rintro ⟨r1, r2⟩ s' ⟨hr, rfl, _⟩
    cases (show r1 = none from hr)
    exact wpAny_pure h
theorem byVT {k : List Key} {b : Addr} {Q : Bool → Shared → Prop} (hk : IsM P w s.heap k b) (h : ∀ c, Q c s) : wpAny (model P w) A (hashByValue 8 (.ref b)) Q E s := by
  have ty := hk.typeIs
  obtain ⟨o, items, n, ho, _, hd, hi⟩ := hk
  unfold hashByValue
  refine wpAny_bind (wpAny_specialOf ty F.slot_tuple_hash.lookup ?_)
  show wpAny _ _ (seqItems? (.ref b) >>= _) _ _ s
  refine wpAny_bind (wpAny_seqItems ho hd (wpAny_bind ?_))
  show wpAny _ _ (forIn items _ _) _ _ s
  rw [← Array.forIn_toList]
  refine wpAny_forIn_list _ (fun rest r s' => s' = s ∧ ∀ v ∈ rest, flat1 v) _ ?_ ?_ _ _ ⟨rfl, items_flat hi⟩
  · rintro v rest r s' ⟨rfl, all⟩
    obtain ⟨c, ec⟩ := byV 7 (all v List.mem_cons_self)
    rw [ec]
    refine wpAny_bind (wpAny_pure ?_)
    cases c with
    | true =>
      simp only [Bool.not_true, Bool.false_eq_true, if_false]
      exact wpAny_pure ⟨rfl, fun u m => all u (List.mem_cons_of_mem _ m)⟩
    | false =>
      simp only [Bool.not_false, if_true]
      exact wpAny_pure (wpAny_pure (h false))
  · rintro ⟨r1, r2⟩ s' ⟨rfl, _⟩
    cases r1 with
    | none => exact wpAny_pure (h true)
    | some c => exact wpAny_pure (h c)
theorem seenT {k : List Key} {b : Addr} {ys : List Value} {Q : Bool → Shared → Prop} (hk : IsM P w s.heap k b) (hy : ∀ y ∈ ys, ∃ l c, y = Value.ref c ∧ IsM P w s.heap l c) (h : Q false s) : wpAny (model P w) A (searchCouldBeSeen (.ref b) ys) Q E s := by
  unfold searchCouldBeSeen
  refine wpAny_bind ?_
  refine wpAny_forIn_list _ (fun rest r s' => r.1 = none ∧ s' = s ∧ ∀ y ∈ rest, ∃ l c, y = Value.ref c ∧ IsM P w s.heap l c) _ ?_ ?_ _ _ ⟨rfl, rfl, hy⟩
  · rintro v rest r s' ⟨hr, rfl, all⟩
    obtain ⟨l, c, rfl, hc⟩ := all v List.mem_cons_self
    have more : ∀ y ∈ rest, ∃ l c, y = Value.ref c ∧ IsM P w s'.heap l c := fun u m => all u (List.mem_cons_of_mem _ m)
    dsimp only
    by_cases hv : (b == c || (carriedByValue (.ref b) && carriedByValue (.ref c))) = true
    · exact wp_if_pos hv (wpAny_pure ⟨rfl, rfl, more⟩)
    · refine wp_if_neg hv (wpAny_bind (wpAny_eqIsQuiet_tuple hk ?_))
      simp only [Bool.not_true, Bool.false_eq_true, if_false]
      refine wpAny_bind (wpAny_eqIsQuiet_tuple hc ?_)
      simp only [Bool.not_true, Bool.false_eq_true, if_false]
      refine wpAny_bind (noClassT hk ?_)
      simp only [Bool.false_eq_true, if_false]
      refine wpAny_bind (noClassT hc ?_)
      simp only [Bool.false_eq_true, if_false]
      exact wpAny_pure ⟨rfl, rfl, more⟩
  · rintro ⟨r1, r2⟩ s' ⟨hr, rfl, _⟩
    cases (show r1 = none from hr)
    exact wpAny_pure h
/-- tuples of ints and texts -/
def mixE (P : Program) (w : World) : EltH P w (List Key) where
  is := IsM P w
  hash := tupleKeyHash (mixKind P w)
  eq := fun hu hx hy q => wpAny_eqBool_tuple hu hx hy q
  seen := fun hx hy q => seenT hx hy q
  off := by
    rintro h h' k a b o es ep t ⟨o', items, n, ho', hc, hd', hi⟩ ho hd sb
    have ne : b ≠ a := by
      rintro rfl
      rw [ho'] at ho
      cases ho
      rw [hd] at hd'
      cases hd'
    exact ⟨o', items, n, (sb.2 b ne).trans ho', hc, hd', hi⟩
  byVal := fun hx q => byVT hx q
  up := by
    rintro h h' k b ⟨o, items, n, ho, r⟩ kp
    exact ⟨o, items, n, kp b o ho, r⟩
  hsh := fun hu hx q => wpAny_pyHash_tuple hu hx (q _ (Nat.le_add_right _ _))
end
end DS

/-! sorted(xs) and sorted(set) of pairs of an int and a text -/
namespace DS
open PySem PySem.Spec PyProof.Rows L2 SrtO
abbrev Pr : Type := Int × Str
/-- by the int, then by the text's signs -/
def ltM (p q : Pr) : Bool := if p.1 = q.1 then decide (p.2.cps.toList < q.2.cps.toList) else decide (p.1 < q.1)
theorem ltM_iff {p q : Pr} : ltM p q = true ↔ p.1 < q.1 ∨ (p.1 = q.1 ∧ p.2.cps.toList < q.2.cps.toList) := by
  unfold ltM
  split
  · rename_i e
    simp [e]
  · rename_i e
    rw [decide_eq_true_eq]
    constructor
    · exact .inl
    · rintro (h | h)
      · exact h
      · exact absurd h.1 e
theorem nat_asym {x y : List Nat} (h : x < y) : ¬ y < x := fun z => List.lt_irrefl x (List.lt_trans h z)
theorem nat_tri (x y : List Nat) : x < y ∨ x = y ∨ y < x := by
  by_cases h1 : x < y
  · exact .inl h1
  · by_cases h2 : y < x
    · exact .inr (.inr h2)
    · exact .inr (.inl (List.le_antisymm (List.not_lt.mp h2) (List.not_lt.mp h1)))
theorem ltM_asym {p q : Pr} (h : ltM p q = true) : ltM q p = false := by
  cases e : ltM q p with
  | false => rfl
  | true =>
    rcases ltM_iff.mp h with a | a <;> rcases ltM_iff.mp e with b | b
    · omega
    · omega
    · omega
    · exact absurd b.2 (nat_asym a.2)
theorem ltM_tri {p q : Pr} : ltM p q = true ∨ p = q ∨ ltM q p = true := by
  rcases Int.lt_trichotomy p.1 q.1 with h | h | h
  · exact .inl (ltM_iff.mpr (.inl h))
  · rcases nat_tri p.2.cps.toList q.2.cps.toList with g | g | g
    · exact .inl (ltM_iff.mpr (.inr ⟨h, g⟩))
    · refine .inr (.inl (Prod.ext h ?_))
      have : p.2.cps = q.2.cps := Array.toList_inj.mp g
      cases hp : p.2; cases hq : q.2
      rw [hp, hq] at this
      simp only at this
      rw [this]
    · exact .inr (.inr (ltM_iff.mpr (.inr ⟨h.symm, g⟩)))
  · exact .inr (.inr (ltM_iff.mpr (.inl h)))
theorem ltM_trans {p q r : Pr} (h1 : ltM p q = true) (h2 : ltM q r = true) : ltM p r = true := by
  refine ltM_iff.mpr ?_
  rcases ltM_iff.mp h1 with a | a <;> rcases ltM_iff.mp h2 with b | b
  · left; omega
  · left; omega
  · left; omega
  · right; exact ⟨a.1.trans b.1, List.lt_trans a.2 b.2⟩
theorem ltM_irr (p : Pr) : ltM p p = false := by
  cases e : ltM p p with
  | false => rfl
  | true => rw [ltM_asym e] at e; cases e
theorem swoM : Swo ltM := by
  refine ⟨fun x y h => ltM_asym h, fun x y z h1 h2 => ?_⟩
  cases e : ltM z x with
  | false => rfl
  | true =>
    rcases ltM_tri (p := x) (q := y) with g | g | g
    · rw [ltM_trans e g] at h2; cases h2
    · subst g; rw [e] at h2; cases h2
    · rw [g] at h1; cases h1
theorem swoK {α : Type} (k : α → Pr) : Swo fun v u => ltM (k v) (k u) := ⟨fun x y => swoM.asym (k x) (k y), fun x y z => swoM.tr (k x) (k y) (k z)⟩
/-! ### on the heap -/
def IsMix (h : Heap) (v : Value) (p : Pr) : Prop := ∃ a o t u n, v = .ref a ∧ h.get? a = some o ∧ o.cls = .type "tuple" ∧ o.data = .seq #[.int p.1 t, .str p.2 u] n
theorem IsMix.up {h h' : Heap} {v : Value} {p : Pr} (m : IsMix h v p) (k : ∀ b o, h.get? b = some o → o.cls = .type "tuple" → h'.get? b = some o) : IsMix h' v p := by
  obtain ⟨a, o, t, u, n, e, ho, r⟩ := m
  exact ⟨a, o, t, u, n, e, k a o ho r.1, r⟩
theorem heads {h : Heap} : ∀ {vs : List Value}, (∀ v ∈ vs, ∃ p, IsMix h v p) → ∃ fs : List Value, PySem.W.KatTups h vs fs ∧ fs.length = vs.length ∧ ∀ f ∈ fs, ∃ x t, f = Value.int x t
  | [], _ => ⟨[], .nil, rfl, fun f m => by cases m⟩
  | v :: vs, hm => by
    obtain ⟨fs, k, hl, hi⟩ := heads (vs := vs) fun u hu => hm u (List.mem_cons_of_mem _ hu)
    obtain ⟨p, a, o, t, u, n, rfl, ho, hc, hd⟩ := hm v List.mem_cons_self
    refine ⟨.int p.1 t :: fs, .cons ho hc hd rfl k, by simp [hl], fun f hf => ?_⟩
    rcases List.mem_cons.mp hf with rfl | hf
    · exact ⟨_, _, rfl⟩
    · exact hi f hf
section
variable {prog : Program} {w : World} {A : Around} {E : Value → Shared → Prop} {s : Shared}
theorem mixCmp {vs : List Value} {k : Value → Pr} (hp : ∀ v ∈ vs, IsMix s.heap v (k v)) : SrtO.Cmp prog w A s (tuples' true) (fun p => p.1 ∈ vs) (lt2 fun v u => ltM (k v) (k u)) := by
  intro p q hm hm'
  obtain ⟨a, o, t, u, n, e, ho, hc, hd⟩ := hp _ hm
  obtain ⟨a', o', t', u', n', e', ho', hc', hd'⟩ := hp _ hm'
  show wpAny (model prog w) A (keyLt' (tuples' true) p.1 q.1) (fun r s' => s' = s ∧ r = ltM (k p.1) (k q.1)) (fun _ _ => False) s
  generalize k p.1 = x at hd ⊢
  generalize k q.1 = y at hd' ⊢
  rw [e, e']
  refine PySem.W.kat_lt ho hd ho' hd' ?_
  show PySem.W.KatLex prog w A true (decide (2 < 2)) _ [(.int x.1 t, .int y.1 t'), (.str x.2 u, .str y.2 u')] 0 s
  refine PySem.W.kat_cons (SeqAt.EqAt.int_int x.1 t y.1 t' prog w _ _ ?_)
  refine PySem.W.kat_go (fun e1 => ?_) (fun e1 => ?_)
  · have ex : x.1 = y.1 := by simpa using e1
    refine PySem.W.kat_yes (PySem.W.kat_cons (SeqAt.EqAt.str_str x.2 u y.2 u' prog w _ _ ?_))
    refine PySem.W.kat_go (fun e2 => ?_) (fun e2 => ?_)
    · have ey : x.2 = y.2 := by simpa using e2
      have e3 : ltM x y = false := by rw [show x = y from Prod.ext ex ey]; exact ltM_irr y
      exact PySem.W.kat_yes (PySem.W.kat_nil ⟨rfl, e3.symm⟩)
    · have e3 : ltM x y = decide (x.2.cps.toList < y.2.cps.toList) := by unfold ltM; rw [if_pos ex]
      refine PySem.W.kat_no (PyProof.Rows.oneLt_any_str ?_)
      exact ⟨rfl, e3.symm⟩
  · have ex : ¬ x.1 = y.1 := by simpa using e1
    have e3 : ltM x y = decide (x.1 < y.1) := by unfold ltM; rw [if_neg ex]
    exact PySem.W.kat_no (oneLt_int ⟨rfl, e3.symm⟩)
theorem mixSortable {a : Addr} {vs : List Value} {k : Value → Pr} (h0 : 0 < vs.length) (hp : ∀ v ∈ vs, IsMix s.heap v (k v)) (ha : ∀ o, s.heap.get? a = some o → o.cls ≠ .type "tuple") : SortableO prog w A s a vs fun v u => ltM (k v) (k u) := by
  intro h' kp
  have hp' : ∀ v ∈ vs, IsMix h' v (k v) := fun v hm => (hp v hm).up fun b o e c => kp b o (fun z => by subst z; exact ha o e c) e
  obtain ⟨fs, h1, h2, h3⟩ := heads fun v hm => ⟨_, hp' v hm⟩
  refine ⟨tuples' true, fun Q E hq => ?_, mixCmp hp'⟩
  refine PySem.W.kat_kind (T := .type "int") h1 (by omega) (fun f hm => ?_) rfl ?_
  · obtain ⟨x, t, rfl⟩ := h3 f hm
    exact PySem.W.Looks.now
  · rw [show (Value.type "int" != Value.type "tuple") = true by decide +kernel]
    exact hq
/-- sorted(xs), xs a list -/
theorem sortedMix {l : Addr} {vs : List Value} {k : Value → Pr} {Q : Value → Shared → Prop} (hl : s.heap.IsList l vs.toArray) (hz : vs.length ≤ sizeLine) (hp : ∀ v ∈ vs, IsMix s.heap v (k v))
    (h : ∀ (h' : Heap) (d : Addr) (out : List Value), Srtd (fun v u => ltM (k v) (k u)) out → out.Perm vs → (∀ b o, s.heap.get? b = some o → h'.get? b = some o) → s.heap.objs.size ≤ d → (∃ n, h'.get? d = some (seqObj "list" out.toArray n)) → Q (.ref d) { s with heap := h' }) :
    wpAny (model prog w) A (call (.builtin "sorted") [.ref l]) Q E s := by
  refine sorted_ord (swoK k) hl hz (fun h2 h1 a ha kk => ?_) fun out hs hb => ?_
  · refine mixSortable (s := { s with heap := h1 }) (by omega) (fun v hm => (hp v hm).up fun b o e _ => (kk b o e).2) fun o e => ?_
    have e' : some o = some (seqObj "list" vs.toArray 0) := e.symm.trans ha
    cases e'
    exact fun c => absurd (Value.type.inj c) (by decide)
  · exact h _ _ out hs hb.perm (fun b o e => sortedAll_old e) (Nat.le_succ _) (sortedAll_at s.heap vs out.toArray)
/-- sorted(set) -/
theorem sortedSet {T : EltH prog w (List Key)} {a : Addr} {L : List (Addr × List Key)} {es : Array (Int × Value)} {ep : Nat} {t : SetTable} {k : Value → Pr} {Q : Value → Shared → Prop} (R : SetG T.toElt s.heap a L es ep t) (hh : A.handled = none)
    (hp : ∀ p ∈ L, IsMix s.heap (.ref p.1) (k (.ref p.1)))
    (hQ : ∀ s' p (out : List Value) (c : Nat), (∀ b o, s.heap.get? b = some o → s'.heap.get? b = some o) → s'.gens = s.gens → s'.os = s.os → s.heap.objs.size ≤ p →
      s'.heap.get? p = some (seqObj "list" out.toArray c) → Srtd (fun v u => ltM (k v) (k u)) out → out.Perm (L.map fun q => Value.ref q.1) → Q (.ref p) s') :
    wpAny (model prog w) A (call (.builtin "sorted") [.ref a]) Q E s := by
  obtain ⟨o, ho, hex, hd⟩ := R.ob
  have hsz := R.size
  have hfew := R.few
  refine Calls.call_function_entry kind_sorted plain_sorted entry_sorted (args_sorted1 (.ref a)) ?_
  unfold Builtin.«sorted»
  refine wpAny_bind (m := checkCount "sorted" 1 1 (_)) (wpAny_pure ?_)
  refine wpAny_bind (collect_set (A := A.in1) hh ⟨o, ho, hex.1, hd⟩ R.fits (by unfold scanBound; omega) R.tab.ris R.led fun s1 vs k1 hz g1 o1 pm => ?_)
  rw [R.rows] at pm
  have pm' : vs.Perm (L.map fun q => Value.ref q.1) := by
    have e : (rws T.toElt L).map (·.2) = L.map fun q => Value.ref q.1 := by unfold rws; rw [List.map_map]; rfl
    rw [e] at pm; exact pm
  have hvl : vs.length < 64 := by rw [pm'.length_eq, List.length_map]; exact hfew
  refine wpAny_bind (wpAny_newList ?_ (by rw [sizeLine_eq]; omega))
  have hoL : (s1.heap.push (seqObj "list" vs.toArray 0)).get? s1.heap.objs.size = some (seqObj "list" vs.toArray 0) := Heap.get?_push_size _ rfl
  have hm : ∀ v ∈ vs, IsMix (s1.heap.push (seqObj "list" vs.toArray 0)) v (k v) := fun v hv => by
    obtain ⟨q, hq, rfl⟩ := List.mem_map.mp (pm'.mem_iff.mp hv)
    exact (hp q hq).up fun b u e _ => Heap.get?_push_of_some _ (k1 b u e)
  refine wpAny_bind (wpAny_holding (wpAny_call_entry slot_list_sort ⟨_, hoL, rfl⟩ entry_list_sort (list_sort_ord (s := { s1 with heap := s1.heap.push (seqObj "list" vs.toArray 0) }) (swoK k) hoL (by rw [sizeLine_eq]; omega) (fun h2 => mixSortable (by omega) hm fun o e => ?_) fun out hs hb => ⟨_, rfl, ?_⟩) (args_list_sort _)))
  · have e' : some o = some (seqObj "list" vs.toArray 0) := e.symm.trans hoL
    cases e'
    exact fun c => absurd (Value.type.inj c) (by decide)
  · obtain ⟨c, hc⟩ := sortedHeap_at (vs := vs) (out := out.toArray) hoL
    refine wpAny_pure ⟨_, rfl, hQ _ s1.heap.objs.size out c (fun b u e => ?_) g1 o1 hz hc hs (hb.perm.trans pm')⟩
    have q := k1 b u e
    have hlt := Heap.lt_size q
    show (sortedHeap (s1.heap.push (seqObj "list" vs.toArray 0)) s1.heap.objs.size vs out.toArray).get? b = some u
    rw [sortedHeap_old (Nat.ne_of_lt hlt) (by rw [size_push']; exact Nat.lt_succ_of_lt hlt)]
    exact Heap.get?_push_of_some _ q
end
end DS

/-! set(x), sorted(set), sorted(list) of pairs of an int and a text, as rules of the layer -/
namespace DS
open PySem PySem.Spec PyProof.Rows L2 SrtO
def keyP (p : Pr) : List Key := [.inl p.1, .inr p.2]
def unkey : List Key → Pr
  | [.inl i, .inr z] => (i, z)
  | _ => (0, "")
theorem unkey_keyP (p : Pr) : unkey (keyP p) = p := rfl
/-- x is the pair p -/
def PairAt (K : PySem.W.Frag) (H : Hp) (x : V) (p : Pr) : Prop := ∃ t, x = V.ref t ∧ SqT K H t [.int p.1, .str p.2]
theorem IsMix.one {h : Heap} {v : Value} {p q : Pr} (a : IsMix h v p) (b : IsMix h v q) : p = q := by
  obtain ⟨x, o, t, u, n, e, ho, hc, hd⟩ := a
  obtain ⟨x', o', t', u', n', e', ho', hc', hd'⟩ := b
  subst e
  cases e'
  rw [ho] at ho'
  cases ho'
  rw [hd] at hd'
  injection hd' with h1 h2
  have h3 := congrArg Array.toList h1
  simp only [List.cons.injEq, Value.int.injEq, Value.str.injEq] at h3
  exact Prod.ext h3.1.1 h3.2.1.1
section
variable {X : Cx} {pins : List (Addr × Obj)} {σ : L2.St} {H : Hp} {s : Shared}
theorem mixOf (I : Inv X pins σ H s) {t : Addr} {p : Pr} (h : SqT X.K H t [.int p.1, .str p.2]) : IsMix s.heap (.ref t) p ∧ IsM X.prog X.w s.heap (keyP p) t := by
  obtain ⟨its, rv, ⟨o, ho, hc, n, hd⟩, _⟩ := I.tuple h
  cases rv with
  | cons r1 rv =>
    cases rv with
    | cons r2 rv =>
      cases rv
      obtain ⟨t1, rfl⟩ := r1
      obtain ⟨t2, rfl⟩ := r2
      exact ⟨⟨t, o, t1, t2, n, rfl, ho, hc, hd⟩, o, _, n, ho, hc, hd, .cons (kV_is (k := .inl p.1) ⟨t1, rfl⟩) (.cons (kV_is (k := .inr p.2) ⟨t2, rfl⟩) .nil)⟩
/-- the pair that stands at v -/
noncomputable def prOf (h : Heap) (v : Value) : Pr := by
  classical
  exact if e : ∃ p, IsMix h v p then e.choose else (0, "")
theorem prOf_eq {h : Heap} {v : Value} {p : Pr} (m : IsMix h v p) : prOf h v = p := by
  have e : ∃ p, IsMix h v p := ⟨p, m⟩
  unfold prOf
  rw [dif_pos e]
  exact e.choose_spec.one m
theorem paired_out {K : PySem.W.Frag} {h : Heap} {H : Hp} : ∀ {out : List Value}, (∀ v ∈ out, ∃ t, v = Value.ref t ∧ SqT K H t [.int (prOf h v).1, .str (prOf h v).2]) → Paired (PairAt K H) (out.map bkV) (out.map (prOf h))
  | [], _ => .nil
  | v :: out, hv => by
    obtain ⟨t, rfl, e⟩ := hv v List.mem_cons_self
    exact .cons ⟨t, rfl, e⟩ (paired_out fun u hu => hv u (List.mem_cons_of_mem _ hu))
theorem srt_map {h : Heap} {out : List Value} (z : Srtd (fun v u => ltM (prOf h v) (prOf h u)) out) : Srtd ltM (out.map (prOf h)) := List.pairwise_map.mpr z
/-- sorted(xs) -/
def rSortM (K : PySem.W.Frag) : List V → Hp → VK → Prop := fun vs H Q => ∃ (a : Addr) (xs : List V) (ps : List Pr), vs = [V.ref a] ∧ SqL K H a xs ∧ Paired (PairAt K H) xs ps ∧
  ∀ ys qs p, Paired (PairAt K H) ys qs → qs.Perm ps → Srtd ltM qs → H p = none → Q (.ref p) (upd H p (.lst ys))
theorem cr_sortM : CallR X (.builtin "sorted") (rSortM X.K) := by
  intro pins s σ H vs us Q I r h
  obtain ⟨a, xs, ps, rfl, hs, hx, q⟩ := h
  obtain ⟨its, rv, hl, hz⟩ := I.list hs
  rw [Vals.ref1 r]
  have key : ∀ {xs : List V} {ps : List Pr} {its : List Value}, Paired (PairAt X.K H) xs ps → Vals xs its → its.map (prOf s.heap) = ps ∧ ∀ v ∈ its, ∃ t, v = Value.ref t ∧ SqT X.K H t [.int (prOf s.heap v).1, .str (prOf s.heap v).2] := by
    intro xs ps its hx rv
    induction hx generalizing its with
    | nil => cases rv; exact ⟨rfl, fun v hv => by cases hv⟩
    | @cons x p xs ps h hx ih =>
      cases rv with
      | cons r1 rv =>
        obtain ⟨t, rfl, ht⟩ := h
        cases r1
        obtain ⟨e, g⟩ := ih rv
        have ep := prOf_eq (mixOf I ht).1
        refine ⟨by rw [List.map_cons, e, ep], fun v hv => ?_⟩
        rcases List.mem_cons.mp hv with rfl | hv
        · exact ⟨t, rfl, by rw [ep]; exact ht⟩
        · exact g v hv
  obtain ⟨e1, e2⟩ := key hx rv
  refine sortedMix (k := prOf s.heap) hl.isList (by rw [← rv.length]; exact hz) (fun v hv => ?_) fun h' d out h1 h2 kp hd hn => ?_
  · obtain ⟨t, rfl, ht⟩ := e2 v hv
    exact (mixOf I ht).1
  · have h3 : ∀ u ∈ out, ∃ t, u = Value.ref t ∧ SqT X.K H t [.int (prOf s.heap u).1, .str (prOf s.heap u).2] := fun u hu => e2 u (h2.mem_iff.mp hu)
    obtain ⟨n, hn⟩ := hn
    refine ⟨.ref d, upd H d (.lst (out.map bkV)), I.laid (t' := s.toks) kp hd ⟨?_, out, n, bkV_vals fun u hu => (h3 u hu).imp fun _ z => z.1, hn⟩, rfl, q _ _ d (paired_out h3) (by rw [← e1]; exact h2.map _) (srt_map h1) (I.hok.fresh hd)⟩
    rw [List.length_map, h2.length_eq, ← rv.length]
    exact hz
/-! ### sets -/
structure SetG0 (P : Program) (w : World) (h : Heap) (a : Addr) (L : List (Addr × List Key)) : Prop where
  ex : ∃ (es : Array (Int × Value)) (ep : Nat) (t : SetTable), (∃ o, h.get? a = some o ∧ o.ExactSet ∧ o.data = .set es ep t) ∧ es.toList = rws (mixE P w).toElt L ∧ TabOk t (L.map fun p => (mixE P w).hash p.2) ∧ (L.map (·.2)).Nodup ∧
    (w.params.followText "set-order" = true ∨ t.led = true) ∧ L.length * 5 < t.mask * 3 ∧ L.length < 64
def SetGO (P : Program) (w : World) (a : Addr) (L : List (Addr × List Key)) : HO := .ext fun h => SetG0 P w h a L
theorem SetG.g0 {P : Program} {w : World} {h : Heap} {a : Addr} {L : List (Addr × List Key)} {es : Array (Int × Value)} {ep : Nat} {t : SetTable} (R : SetG (mixE P w).toElt h a L es ep t) : SetG0 P w h a L :=
  ⟨es, ep, t, R.ob, R.rows, R.tab, R.nd, R.led, R.room, R.few⟩
theorem SetG0.whole {P : Program} {w : World} {h : Heap} {a : Addr} {L : List (Addr × List Key)} (R : SetG0 P w h a L) (he : ∀ p ∈ L, (mixE P w).is h p.2 p.1) : ∃ es ep t, SetG (mixE P w).toElt h a L es ep t := by
  obtain ⟨es, ep, t, h1, h2, h3, h4, h5, h6, h7⟩ := R.ex
  exact ⟨es, ep, t, ⟨h1, h2, h3, h4, he, h5, h6, h7⟩⟩
theorem setGO_ok {P : Program} {w : World} {H : Hp} {h : Heap} {a : Addr} {L : List (Addr × List Key)} (R : SetG0 P w h a L) : ObjOk P w H h a (SetGO P w a L) := by
  obtain ⟨es, ep, t, ⟨o, ho, r⟩, q⟩ := R.ex
  refine ⟨R, ⟨o, ho⟩, fun h1 h2 p k => ?_⟩
  obtain ⟨es', ep', t', ⟨o', ho', r'⟩, q'⟩ := SetG0.ex p
  exact ⟨es', ep', t', ⟨o', k o' ho', r'⟩, q'⟩
def FewP (ps : List Pr) : Prop := ∃ U : List Pr, U.length < 64 ∧ ∀ p ∈ ps, p ∈ U
theorem fewK_of {ps : List Pr} {ks : List (Addr × Pr)} (h : FewP ps) (e : ks.map (·.2) = ps) : FewK (ks.map fun p => (p.1, keyP p.2)) := by
  obtain ⟨U, h1, h2⟩ := h
  refine ⟨U.map keyP, by rw [List.length_map]; exact h1, fun z hz => ?_⟩
  obtain ⟨p, hp, rfl⟩ := List.mem_map.mp hz
  exact List.mem_map.mpr ⟨p.2, h2 _ (by rw [← e]; exact List.mem_map.mpr ⟨p, hp, rfl⟩), rfl⟩
/-- set(x), x a list or a tuple -/
def rSetM (K : PySem.W.Frag) (P : Program) (w : World) : List V → Hp → VK → Prop := fun xs H Q => ∃ (l : Addr) (vs : List V) (ps : List Pr), xs = [V.ref l] ∧ (SqL K H l vs ∨ SqT K H l vs) ∧ Paired (PairAt K H) vs ps ∧ FewP ps ∧
  ∀ a L, H a = none → (∀ q ∈ L, q.2 = keyP (unkey q.2) ∧ unkey q.2 ∈ ps ∧ SqT K H q.1 [.int (unkey q.2).1, .str (unkey q.2).2]) → (∀ p ∈ ps, p ∈ L.map fun q => unkey q.2) → Q (.ref a) (upd H a (SetGO P w a L))
theorem adrs {K : PySem.W.Frag} {H : Hp} : ∀ {vs : List V} {ps : List Pr} {its : List Value}, Paired (PairAt K H) vs ps → Vals vs its → ∃ ks : List (Addr × Pr), its = ks.map (fun p => Value.ref p.1) ∧ ks.map (·.2) = ps ∧ ∀ p ∈ ks, SqT K H p.1 [.int p.2.1, .str p.2.2]
  | _, _, _, .nil, .nil => ⟨[], rfl, rfl, fun p hp => by cases hp⟩
  | _, p :: _, _, .cons h hx, .cons r1 rv => by
    obtain ⟨t, rfl, ht⟩ := h
    cases r1
    obtain ⟨ks, e1, e2, g⟩ := adrs hx rv
    refine ⟨(t, p) :: ks, by rw [e1]; rfl, by rw [List.map_cons, e2], fun q hq => ?_⟩
    rcases List.mem_cons.mp hq with rfl | hq
    · exact ht
    · exact g q hq
theorem cr_setM (hc : X.calm = true) (hu : X.A.units + 64 < cLine) : CallR X (.type "set") (rSetM X.K X.prog X.w) := by
  intro pins s σ H xs us Q I r h
  obtain ⟨l, vs, ps, rfl, hl, hx, hf, q⟩ := h
  rw [Vals.ref1 r]
  have hn : H s.heap.objs.size = none := I.hok.fresh (Nat.le_refl _)
  have fin : ∀ ks : List (Addr × Pr), ks.map (·.2) = ps → (∀ p ∈ ks, SqT X.K H p.1 [.int p.2.1, .str p.2.2]) → ∀ (h' : Heap) (tk : Nat) L es ep t, SetG (mixE X.prog X.w).toElt h' s.heap.objs.size L es ep t → Brought (ks.map fun p => (p.1, keyP p.2)) (ks.map fun p => (p.1, keyP p.2)).length L → (∀ b o, s.heap.get? b = some o → h'.get? b = some o) → EP X pins σ Q (.ref s.heap.objs.size) { s with heap := h', toks := tk } := by
    intro ks ek hk h' tk L es ep t R g k
    refine ⟨.ref s.heap.objs.size, upd H s.heap.objs.size (SetGO X.prog X.w s.heap.objs.size L), I.laid (t' := tk) k (Nat.le_refl _) (setGO_ok R.g0), rfl, q _ L hn (fun z hz => ?_) fun p hp => ?_⟩
    · have hz' := List.mem_of_mem_take (g.from_ z hz)
      obtain ⟨p, hp, rfl⟩ := List.mem_map.mp hz'
      refine ⟨rfl, ?_, hk p hp⟩
      show p.2 ∈ ps
      rw [← ek]; exact List.mem_map.mpr ⟨p, hp, rfl⟩
    · rw [← ek] at hp
      obtain ⟨p0, hp0, rfl⟩ := List.mem_map.mp hp
      have := g.all (p0.1, keyP p0.2) (by rw [List.take_length]; exact List.mem_map.mpr ⟨p0, hp0, rfl⟩)
      obtain ⟨z, hz, e⟩ := List.mem_map.mp this
      exact List.mem_map.mpr ⟨z, hz, by rw [e]; exact unkey_keyP _⟩
  rcases hl with hl | hl
  · obtain ⟨its, rv, pl, hz⟩ := I.list hl
    obtain ⟨ks, e1, e2, hk⟩ := adrs hx rv
    have hlen := fewK_of hf e2
    refine setOfList (T := mixE X.prog X.w) (ks.map fun p => (p.1, keyP p.2)) (I.ok.hd hc) pl.isList (by rw [List.map_map, List.toList_toArray]; exact e1) (fun z hz => ?_) hlen (by omega) (fin ks e2 hk)
    obtain ⟨p, hp, rfl⟩ := List.mem_map.mp hz
    exact (mixOf I (hk p hp)).2
  · obtain ⟨its, rv, pl, hz⟩ := I.tuple hl
    obtain ⟨ks, e1, e2, hk⟩ := adrs hx rv
    have hlen := fewK_of hf e2
    refine setOfTup (T := mixE X.prog X.w) (ks.map fun p => (p.1, keyP p.2)) (I.ok.hd hc) pl (by rw [List.map_map, List.toList_toArray]; exact e1) (fun z hz => ?_) hlen (by omega) (fin ks e2 hk)
    obtain ⟨p, hp, rfl⟩ := List.mem_map.mp hz
    exact (mixOf I (hk p hp)).2
/-- sorted(set) -/
def rSortSet (K : PySem.W.Frag) (P : Program) (w : World) : List V → Hp → VK → Prop := fun vs H Q => ∃ (a : Addr) (L : List (Addr × List Key)), vs = [V.ref a] ∧ H a = some (SetGO P w a L) ∧ (∀ q ∈ L, q.2 = keyP (unkey q.2) ∧ SqT K H q.1 [.int (unkey q.2).1, .str (unkey q.2).2]) ∧
  ∀ ys qs p, Paired (PairAt K H) ys qs → qs.Perm (L.map fun q => unkey q.2) → qs.Nodup → Srtd ltM qs → H p = none → Q (.ref p) (upd H p (.lst ys))
theorem cr_sortSet (hc : X.calm = true) : CallR X (.builtin "sorted") (rSortSet X.K X.prog X.w) := by
  intro pins s σ H vs us Q I r h
  obtain ⟨a, L, rfl, ha, hk, q⟩ := h
  have R0 : SetG0 X.prog X.w s.heap a L := (I.hok a _ ha).1
  have hm : ∀ p ∈ L, IsMix s.heap (.ref p.1) (unkey p.2) := fun p hp => (mixOf I (hk p hp).2).1
  obtain ⟨es, ep, t, R⟩ := R0.whole fun p hp => by
    rw [(hk p hp).1]
    exact (mixOf I (hk p hp).2).2
  rw [Vals.ref1 r]
  refine sortedSet (k := prOf s.heap) R (I.ok.hd hc) (fun p hp => by rw [prOf_eq (hm p hp)]; exact hm p hp) fun s' p out c k g o hp hg hs pm => ?_
  have hin : ∀ v ∈ out, ∃ z ∈ L, v = Value.ref z.1 := fun v hv => by
    obtain ⟨z, hz, e⟩ := List.mem_map.mp (pm.mem_iff.mp hv)
    exact ⟨z, hz, e.symm⟩
  have h3 : ∀ v ∈ out, ∃ t, v = Value.ref t ∧ SqT X.K H t [.int (prOf s.heap v).1, .str (prOf s.heap v).2] := fun v hv => by
    obtain ⟨z, hz, rfl⟩ := hin v hv
    exact ⟨z.1, rfl, by rw [prOf_eq (hm z hz)]; exact (hk z hz).2⟩
  have hl : out.length = L.length := by rw [pm.length_eq, List.length_map]
  have hlen : (out.map bkV).length ≤ sizeLine := by rw [List.length_map, hl, sizeLine_eq]; have := R.few; omega
  have hn : H p = none := I.hok.fresh hp
  have J : Inv X pins σ (upd H p (.lst (out.map bkV))) { s with heap := s'.heap, gens := s'.gens, drawn := s'.drawn, toks := s'.toks } :=
    I.call (ch := []) (Un.laid k hp hn) (I.hok.laid k hp ⟨hlen, out, c, bkV_vals fun u hu => (h3 u hu).imp fun _ z => z.1, hg⟩) (by rw [g]; exact I.bare) (fun _ z => nomatch z)
  have e : s' = { s with heap := s'.heap, gens := s'.gens, drawn := s'.drawn, toks := s'.toks } := by
    obtain ⟨x1, x2, x3, x4, x5⟩ := s'
    obtain ⟨y1, y2, y3, y4, y5⟩ := s
    cases o
    rfl
  have pm2 : (out.map (prOf s.heap)).Perm (L.map fun z => unkey z.2) := by
    have h1 := pm.map (prOf s.heap)
    rw [List.map_map] at h1
    have h2 : L.map (prOf s.heap ∘ fun z => Value.ref z.1) = L.map fun z => unkey z.2 := List.map_congr_left fun z hz => prOf_eq (hm z hz)
    rw [h2] at h1
    exact h1
  have nd : (L.map fun z => unkey z.2).Nodup := by
    have h1 := R.nd
    refine List.pairwise_map.mpr (List.Pairwise.imp_of_mem (fun {x y} hx hy hne e => hne ?_) (List.pairwise_map.mp h1))
    rw [(hk x hx).1, (hk y hy).1, e]
  rw [e]
  exact ⟨.ref p, _, J, rfl, q _ _ p (paired_out h3) pm2 (pm2.nodup_iff.mpr nd) (srt_map hs) hn⟩
end
end DS

/-! pairs of an int and a text by data: sorted(xs), sorted(set(xs)) -/
namespace DL
open PySem L2
open DS (Pr ltM PairAt ltM_tri ltM_trans ltM_irr ltM_asym swoM)
def pairD (p : Pr) : D := .tup [.int p.1, .str p.2]
/-! ### the mathematics -/
abbrev leM (p q : Pr) : Bool := !ltM q p
theorem leM_trans (p q r : Pr) (h1 : leM p q = true) (h2 : leM q r = true) : leM p r = true := by
  have h1' : ltM q p = false := by simpa [leM] using h1
  have h2' : ltM r q = false := by simpa [leM] using h2
  have := swoM.tr p q r h1' h2'
  simp [leM, this]
theorem leM_total (p q : Pr) : (leM p q || leM q p) = true := by
  cases h : ltM q p with
  | false => simp [leM, h]
  | true => simp [leM, ltM_asym h]
theorem leM_anti {p q : Pr} (h1 : leM p q = true) (h2 : leM q p = true) : p = q := by
  rcases ltM_tri (p := p) (q := q) with h | h | h
  · simp [leM, h] at h2
  · exact h
  · simp [leM, h] at h1
/-- sorted -/
def sortP (ps : List Pr) : List Pr := ps.mergeSort leM
theorem sortP_perm (ps : List Pr) : (sortP ps).Perm ps := List.mergeSort_perm ps _
theorem sortP_sorted (ps : List Pr) : (sortP ps).Pairwise (fun p q => leM p q = true) := List.pairwise_mergeSort leM_trans leM_total ps
theorem sorted_uniq : ∀ {l m : List Pr}, l.Pairwise (fun p q => leM p q = true) → m.Pairwise (fun p q => leM p q = true) → l.Perm m → l = m
  | [], m, _, _, p => by rw [p.nil_eq]
  | a :: l, m, hl, hm, p => by
    match m, p with
    | [], p => exact absurd p.length_eq (by simp)
    | b :: m, p =>
      have ab : a = b := by
        have h1 : a ∈ b :: m := p.mem_iff.mp List.mem_cons_self
        have h2 : b ∈ a :: l := p.mem_iff.mpr List.mem_cons_self
        rcases List.mem_cons.mp h1 with e | h1
        · exact e
        · rcases List.mem_cons.mp h2 with e | h2
          · exact e.symm
          · exact leM_anti ((List.pairwise_cons.mp hl).1 b h2) ((List.pairwise_cons.mp hm).1 a h1)
      subst ab
      rw [sorted_uniq (List.pairwise_cons.mp hl).2 (List.pairwise_cons.mp hm).2 (List.perm_cons a |>.mp p)]
/-- ascending, each once -/
def AscP (ps : List Pr) : Prop := ps.Pairwise fun p q => ltM p q = true
def ascP (ps : List Pr) : List Pr := sortP ps.eraseDups
theorem AscP.nodup {ps : List Pr} (h : AscP ps) : ps.Nodup := List.Pairwise.imp (fun {p q} h e => by subst e; rw [ltM_irr] at h; cases h) h
theorem AscP.le {ps : List Pr} (h : AscP ps) : ps.Pairwise fun p q => leM p q = true := List.Pairwise.imp (fun {p q} h => by simp [leM, ltM_asym h]) h
theorem asc_of {ps : List Pr} (h1 : ps.Pairwise fun p q => leM p q = true) (h2 : ps.Nodup) : AscP ps := by
  refine (List.Pairwise.and h1 h2).imp fun {p q} ⟨h, hne⟩ => ?_
  rcases ltM_tri (p := p) (q := q) with g | g | g
  · exact g
  · exact absurd g hne
  · simp [leM, g] at h
theorem nodup_eraseDups (ps : List Pr) : ps.eraseDups.Nodup := by
  induction h : ps.length using Nat.strongRecOn generalizing ps with
  | ind n ih =>
    match ps with
    | [] => simp
    | p :: ps =>
      rw [List.eraseDups_cons]
      refine List.nodup_cons.mpr ⟨?_, ih _ ?_ _ rfl⟩
      · simp [List.mem_eraseDups]
      · rw [← h, List.length_cons]
        exact Nat.lt_succ_of_le (List.length_filter_le _ _)
theorem ascP_asc (ps : List Pr) : AscP (ascP ps) := asc_of (sortP_sorted _) ((sortP_perm _).nodup_iff.mpr (nodup_eraseDups ps))
theorem mem_ascP {ps : List Pr} {p : Pr} : p ∈ ascP ps ↔ p ∈ ps := by
  unfold ascP
  rw [(sortP_perm _).mem_iff, List.mem_eraseDups]
theorem asc_ext {l m : List Pr} (hl : AscP l) (hm : AscP m) (h : ∀ p, p ∈ l ↔ p ∈ m) : l = m :=
  sorted_uniq hl.le hm.le ((List.perm_ext_iff_of_nodup hl.nodup hm.nodup).mpr h)
theorem ascP_ext {l m : List Pr} (h : ∀ p, p ∈ l ↔ p ∈ m) : ascP l = ascP m := asc_ext (ascP_asc l) (ascP_asc m) fun p => by rw [mem_ascP, mem_ascP]; exact h p
theorem ascP_self {l : List Pr} (h : AscP l) : ascP l = l := asc_ext (ascP_asc l) h fun p => mem_ascP
theorem AscP.filter {l : List Pr} (h : AscP l) (f : Pr → Bool) : AscP (l.filter f) := List.Pairwise.filter f h
theorem ascP_len (ps : List Pr) : (ascP ps).length ≤ ps.length := by
  have h : ∀ (n : Nat) (ps : List Pr), ps.length = n → ps.eraseDups.length ≤ ps.length := by
    intro n
    induction n using Nat.strongRecOn with
    | ind n ih =>
      intro ps h
      match ps with
      | [] => simp
      | p :: ps =>
        rw [List.eraseDups_cons, List.length_cons, List.length_cons]
        have h1 := List.length_filter_le (fun b => !b == p) ps
        have h2 := ih (ps.filter fun b => !b == p).length (by rw [← h, List.length_cons]; omega) _ rfl
        omega
  unfold ascP
  rw [(sortP_perm _).length_eq]
  exact h _ ps rfl
theorem sortP_nodup {ps : List Pr} (h : ps.Nodup) : sortP ps = ascP ps := by
  refine sorted_uniq (sortP_sorted ps) (ascP_asc ps).le ?_
  refine (sortP_perm ps).trans ((List.perm_ext_iff_of_nodup h (ascP_asc ps).nodup).mpr fun p => ?_)
  rw [mem_ascP]
/-! ### on the heap -/
section
variable {nf : Addr → Nat} {K : PySem.W.Frag}
theorem rels_pairs {H : Hp} : ∀ {vs : List V} {ps : List Pr}, Rels K nf H vs (ps.map pairD) → Paired (PairAt K H) vs ps
  | _, [], .nil => .nil
  | _, p :: ps, .cons h r => by
    cases h with
    | tup hs rr =>
      cases rr with
      | cons r1 rr =>
        cases rr with
        | cons r2 rr =>
          cases rr
          have e1 := rel_int r1
          have e2 := rel_str r2
          subst e1 e2
          exact .cons ⟨_, rfl, hs⟩ (rels_pairs r)
theorem pairs_rels {H : Hp} : ∀ {vs : List V} {ps : List Pr}, Paired (PairAt K H) vs ps → Rels K nf H vs (ps.map pairD)
  | _, _, .nil => .nil
  | _, _, .cons ⟨t, e, hs⟩ r => by
    subst e
    exact .cons (.tup hs (.cons (.int _) (.cons (.str _) .nil))) (pairs_rels r)
variable [Anch] {X : Cx} {e : Expr} {p p2 pos pos2 : Pos} {ra : DAs nf}
/-- sorted(xs) -/
def dSortM (ra : DAs nf) : DT nf := fun env Q => ra env fun ds env1 => ∃ ps : List Pr, ds = [.lst (ps.map pairD)] ∧ Q (.lst ((sortP ps).map pairD)) env1
theorem de_sortM (hg : Gl X "sorted") (hm : X.mg "sorted" = none) (ha : DA X nf [e] ra) (he : starEach [e] X.env = (false, eval e X.env) :: starEach [] X.env := by rfl) (hpl : (backTo pos (starEach [] X.env)).any (·.1) = false := by rfl) : DE X nf (.Call (.Name "sorted" p) [e] [] pos) (dSortM ra) :=
  pe_imp (pe_fz (pe_callB DS.cr_sortM hg hm (by decide +kernel) ha (by decide) (by decide) he hpl)) fun σ H Q ⟨env, fp, Qd, R, h, k⟩ => ⟨env, fp, _, R, h, fun vs H1 ds env1 fp1 r1 R1 c1 ⟨ps, e, q⟩ => by
    subst e
    obtain ⟨v, rfl, hr⟩ := rels1x r1
    cases hr with
    | @lst a ws _ hz rr =>
      refine ⟨a, ws, ps, rfl, hz.sq, rels_pairs rr, fun ys qs p hP hp hs hn => ⟨p, _, rfl, upd_same, trivial, fun o => ?_⟩⟩
      have eq : qs = sortP ps := sorted_uniq (hs.imp fun {p q} h => by simp [leM, h]) (sortP_sorted ps) (hp.trans (sortP_perm ps).symm)
      subst eq
      have x : Xt H1 (upd (upd H1 p (.lst ys)) p (.frz o (.lst ys))) := xt_fz (Xt.new hn) hn
      exact k _ _ _ env1 fp1 (.lst ⟨o, upd_same⟩ ((pairs_rels hP).mono x.stp)) (R1.ext x) (c1.trans x.ch) q⟩
/-- sorted(set(xs)) -/
def dSortSet (ra : DAs nf) : DT nf := fun env Q => ra env fun ds env1 => ∃ ps : List Pr, (ds = [.lst (ps.map pairD)] ∨ ds = [.tup (ps.map pairD)]) ∧ DS.FewP ps ∧ Q (.lst ((ascP ps).map pairD)) env1
theorem de_sortSet (hc : X.calm = true) (hu : X.A.units + 64 < cLine) (hg : Gl X "sorted") (hm : X.mg "sorted" = none) (hg2 : Gl X "set") (hm2 : X.mg "set" = none) (ha : DA X nf [e] ra)
    (he : starEach [e] X.env = (false, eval e X.env) :: starEach [] X.env := by rfl) (hpl : (backTo pos2 (starEach [] X.env)).any (·.1) = false := by rfl)
    (he2 : starEach [.Call (.Name "set" p2) [e] [] pos2] X.env = (false, eval (.Call (.Name "set" p2) [e] [] pos2) X.env) :: starEach [] X.env := by rfl) (hpl2 : (backTo pos (starEach [] X.env)).any (·.1) = false := by rfl) :
    DE X nf (.Call (.Name "sorted" p) [.Call (.Name "set" p2) [e] [] pos2] [] pos) (dSortSet ra) :=
  pe_imp (pe_fz (pe_callB (DS.cr_sortSet hc) hg hm (by decide +kernel) (pa_cons (pe_callTy (DS.cr_setM hc hu) hg2 hm2 (by decide +kernel) ha (by decide) (by decide) he hpl) pa_nil) (by decide) (by decide) he2 hpl2)) fun σ H Q ⟨env, fp, Qd, R, h, k⟩ => ⟨env, fp, _, R, h, fun vs H1 ds env1 fp1 r1 R1 c1 ⟨ps, e, hl, q⟩ => by
    obtain ⟨l, ws, ev, hs, hP⟩ : ∃ (l : Addr) (ws : List V), vs = [V.ref l] ∧ (SqL X.K H1 l ws ∨ SqT X.K H1 l ws) ∧ Paired (PairAt X.K H1) ws ps := by
      rcases e with rfl | rfl
      · obtain ⟨v, rfl, hr⟩ := rels1x r1
        cases hr with
        | @lst a ws _ hz rr => exact ⟨a, ws, rfl, .inl hz.sq, rels_pairs rr⟩
      · obtain ⟨v, rfl, hr⟩ := rels1x r1
        cases hr with
        | @tup a ws _ hz rr => exact ⟨a, ws, rfl, .inr hz, rels_pairs rr⟩
    subst ev
    refine ⟨l, ws, ps, rfl, hs, hP, hl, fun a L hn hL hA => ?_⟩
    have x1 : Xt H1 (upd H1 a (DS.SetGO X.prog X.w a L)) := Xt.new hn
    refine ⟨a, L, rfl, upd_same, fun z hz => ⟨(hL z hz).1, sqT_mono (nf := nf) x1.stp (hL z hz).2.2⟩, fun ys qs p hP hp hnd hs hn2 => ⟨p, _, rfl, upd_same, trivial, fun o => ?_⟩⟩
    have eq : qs = ascP ps := asc_ext (asc_of (hs.imp fun {p q} h => by simp [leM, h]) hnd) (ascP_asc ps) fun z => by
      rw [hp.mem_iff, mem_ascP]
      constructor
      · intro m
        obtain ⟨y, hy, rfl⟩ := List.mem_map.mp m
        exact (hL y hy).2.1
      · exact hA z
    subst eq
    have x2 := xt_fz (u := .lst ys) (o := o) (Xt.new (o := .lst ys) hn2) hn2
    have x := x1.trans x2
    exact k _ _ _ env1 fp1 (.lst ⟨o, upd_same⟩ ((pairs_rels hP).mono x2.stp)) (R1.ext x) (c1.trans x.ch) q⟩
end
end DL

/-! for x in a list or a tuple; isinstance of tuples and lists; steps -/
namespace DL
open PySem L2
theorem u65 {k : Nat} {A : Around} (r : Room k A) : A.units + 65 < cLine := by have := r.un; omega
section
variable [Anch] {X : Cx} {nf : Addr → Nat}
/-- one of two walks of what is evaluated once -/
def iEither (K : PySem.W.Frag) (tl : TE) : TI := fun σ H R => tl σ H fun x H1 => (∃ a, x = .ref a ∧ (∃ xs, SqL K H1 a xs) ∧ R (Itl K a) H1) ∨ (∃ a, x = .ref a ∧ (∃ xs, SqT K H1 a xs) ∧ R (Itt K a) H1)
theorem pi_either {tg l : Expr} {tl : TE} (hl : PE X l tl) : PI X tg l (iEither X.K tl) := by
  constructor
  intro pins s σ H R I h
  refine thn (hl.run pins s σ H _ I h) fun v s1 ⟨x, H1, I1, r1, q1⟩ => ?_
  have fp : ∀ b ∈ [s1.heap.objs.size], b = s1.heap.objs.size := fun b hb => List.mem_singleton.mp hb
  rcases q1 with ⟨a, rfl, ⟨xs, hq⟩, q⟩ | ⟨a, rfl, ⟨xs, hq⟩, q⟩
  · cases r1
    obtain ⟨its, rv, p, hz⟩ := I1.list hq
    refine wpAny_pyIter_list p.isList ⟨_, [s1.heap.objs.size], _, _, H1, rfl, I1.kept (t' := s1.toks) fun b o e => Heap.get?_push_of_some _ e, turn_list a _, ⟨_, Heap.get?_push_size _ rfl, rfl, rfl⟩, fun b hb => ?_, q⟩
    rw [fp b hb]
    exact I1.fpOk (Nat.le_refl _) (I1.hok.fresh (Nat.le_refl _))
  · cases r1
    obtain ⟨its, rv, p, hz⟩ := I1.tuple hq
    refine wpAny_pyIter_tuple (show s1.heap.IsTuple a its.toArray from p) ⟨_, [s1.heap.objs.size], _, _, H1, rfl, I1.kept (t' := s1.toks) fun b o e => Heap.get?_push_of_some _ e, turn_tuple a _, ⟨_, Heap.get?_push_size _ rfl, rfl, rfl⟩, fun b hb => ?_, q⟩
    rw [fp b hb]
    exact I1.fpOk (Nat.le_refl _) (I1.hok.fresh (Nat.le_refl _))
def iQ (da : DT nf) : DAs nf := fun env Q => da env fun d env1 => ∃ xs, (d = .lst xs ∨ d = .tup xs) ∧ Q xs env1
theorem di_seq {tg l : Expr} {da : DT nf} (h : DE X nf l da) : DIo X nf tg l (iQ da) := pi_imp (pi_either h) fun σ H R ⟨env, fp, Qd, R0, q, k⟩ =>
  lift_run R0 q fun v H1 d env1 fp1 r1 R1 c1 ⟨xs, e, q1⟩ => by
    rcases e with rfl | rfl
    · obtain ⟨a, vs, ev, hl, hs, rr⟩ := ls_of r1 (show lsOf (.lst xs) = some xs from rfl)
      subst ev
      refine .inl ⟨a, rfl, ⟨vs, hl⟩, k _ xs H1 env1 fp1 ⟨_, _, rr.length ▸ walk_list (xs := vs), fun H s => hs H s, fun i H x H2 hi s ⟨e2, y⟩ => ?_⟩ R1 c1 q1⟩
      subst e2
      obtain ⟨d, e3, r3⟩ := rr.getV y
      exact ⟨Xt.refl, d, e3, r3.mono s⟩
    · cases r1 with
      | @tup a vs _ hl rr =>
        refine .inr ⟨a, rfl, ⟨vs, hl⟩, k _ xs H1 env1 fp1 ⟨_, _, rr.length ▸ walk_tup (xs := vs), fun H s => sqT_mono s hl, fun i H x H2 hi s ⟨e2, y⟩ => ?_⟩ R1 c1 q1⟩
        subst e2
        obtain ⟨d, e3, r3⟩ := rr.getV y
        exact ⟨Xt.refl, d, e3, r3.mono s⟩
end
/-! ### steps -/
section
variable {nf : Addr → Nat} {K : PySem.W.Frag} {De : EndsD nf} {env env' : EV nf} {i j : Nat} {d x y z : D} {da db : DT nf} {ra : DAs nf} {Q : D → EV nf → Prop} {QA : List D → EV nf → Prop}
def IqK (QA : List D → EV nf → Prop) : D → EV nf → Prop := fun d env1 => ∃ xs, (d = .lst xs ∨ d = .tup xs) ∧ QA xs env1
theorem iQ_s (h : da env (IqK QA)) : iQ da env QA := h
theorem iqL_s {xs : List D} (h : QA xs env) : IqK QA (.lst xs) env := ⟨xs, .inl rfl, h⟩
theorem iqT_s {xs : List D} (h : QA xs env) : IqK QA (.tup xs) env := ⟨xs, .inr rfl, h⟩
theorem isiTup_s {xs : List D} {T : String} {b : Bool} (e : kitB "tuple" T = some b) (h : Q (.bl b) env) : CbK (fIsi K) Q [.tup xs, .ty T] env := ⟨_, ⟨_, _, _, _, b, rfl, (fun C fs z => by cases z), rfl, rfl, e, rfl⟩, h⟩
theorem isiLst_s {xs : List D} {T : String} {b : Bool} (e : kitB "list" T = some b) (h : Q (.bl b) env) : CbK (fIsi K) Q [.lst xs, .ty T] env := ⟨_, ⟨_, _, _, _, b, rfl, (fun C fs z => by cases z), rfl, rfl, e, rfl⟩, h⟩
theorem isiLstC_s {xs : List D} {C : Addr} {b : Bool} (e : PySem.W.kitOne K (.type "list") (.ref C) = some b) (h : Q (.bl b) env) : CbK (fIsi K) Q [.lst xs, .cls C] env := ⟨_, ⟨_, _, _, _, b, rfl, (fun C fs z => by cases z), rfl, rfl, e, rfl⟩, h⟩
theorem isiTupC_s {xs : List D} {C : Addr} {b : Bool} (e : PySem.W.kitOne K (.type "tuple") (.ref C) = some b) (h : Q (.bl b) env) : CbK (fIsi K) Q [.tup xs, .cls C] env := ⟨_, ⟨_, _, _, _, b, rfl, (fun C fs z => by cases z), rfl, rfl, e, rfl⟩, h⟩
theorem kb7 : kitB "tuple" "tuple" = some true := by decide +kernel
def CatTK (Q : D → EV nf → Prop) (x y : D) : EV nf → Prop := OpK fCatT Q x y
theorem dCatT_s (h : dOp fCatT da db env Q) : dCatT da db env Q := h
theorem catT_s {xs ys : List D} (hl : xs.length + ys.length ≤ 1000000) (h : Q (.tup (xs ++ ys)) env) : OpK fCatT Q (.tup xs) (.tup ys) env := ⟨_, ⟨xs, ys, rfl, rfl, hl, rfl⟩, h⟩
theorem dInX_s {neg : Bool} (h : dOp (fInX neg) da db env Q) : dInX neg da db env Q := h
def SortMK (Q : D → EV nf → Prop) : List D → EV nf → Prop := fun ds env1 => ∃ ps : List DS.Pr, ds = [.lst (ps.map pairD)] ∧ Q (.lst ((sortP ps).map pairD)) env1
theorem dSortM_s (h : ra env (SortMK Q)) : dSortM ra env Q := h
theorem sortMK_s {ps : List DS.Pr} (h : Q (.lst ((sortP ps).map pairD)) env) : SortMK Q [.lst (ps.map pairD)] env := ⟨ps, rfl, h⟩
def SortSetK (Q : D → EV nf → Prop) : List D → EV nf → Prop := fun ds env1 => ∃ ps : List DS.Pr, (ds = [.lst (ps.map pairD)] ∨ ds = [.tup (ps.map pairD)]) ∧ DS.FewP ps ∧ Q (.lst ((ascP ps).map pairD)) env1
theorem dSortSet_s (h : ra env (SortSetK Q)) : dSortSet ra env Q := h
theorem sortSetL_s {ps : List DS.Pr} (hl : DS.FewP ps) (h : Q (.lst ((ascP ps).map pairD)) env) : SortSetK Q [.lst (ps.map pairD)] env := ⟨ps, .inl rfl, hl, h⟩
theorem sortSetT_s {ps : List DS.Pr} (hl : DS.FewP ps) (h : Q (.lst ((ascP ps).map pairD)) env) : SortSetK Q [.tup (ps.map pairD)] env := ⟨ps, .inr rfl, hl, h⟩
def InXVK (K : PySem.W.Frag) (neg : Bool) (i : Nat) (Q : D → EV nf → Prop) : D → EV nf → Prop := fun x env1 => ∃ xs p ps, lsAt K env1 i xs ∧ pyOf x = some p ∧ pyOfs xs = some ps ∧ SeqAt.shaped p = true ∧ SeqAt.shaped (.list ps) = true ∧ Q (.bl (if neg then !inX p ps else inX p ps)) env1
theorem dInXV_s {neg : Bool} (h : da env (InXVK K neg i Q)) : dInXV K neg da i env Q := h
theorem minK_s {a b : Int} (h : Q (.int (if b < a then b else a)) env) : CbK fMin Q [.int a, .int b] env := ⟨_, ⟨a, b, rfl, rfl⟩, h⟩
theorem maxK_s {a b : Int} (h : Q (.int (if b > a then b else a)) env) : CbK fMax Q [.int a, .int b] env := ⟨_, ⟨a, b, rfl, rfl⟩, h⟩
theorem min3K_s {a b c : Int} (h : Q (.int (if c < (if b < a then b else a) then c else (if b < a then b else a))) env) : CbK fMin3 Q [.int a, .int b, .int c] env := ⟨_, ⟨a, b, c, rfl, rfl⟩, h⟩
def OwnEK (P1 P2 : D → D → Prop) (S1 S2 : SpD nf) (Q : D → EV nf → Prop) (x y : D) : EV nf → Prop := fun env2 => (P1 x y ∧ S1 [.fz x, .fz y] fun d _ => Q d env2) ∨ (P2 x y ∧ S2 [.fz y, .fz x] fun d _ => Q d env2)
theorem dOwnE_s {P1 P2 : D → D → Prop} {S1 S2 : SpD nf} (h : da env fun x env1 => db env1 fun y env2 => OwnEK P1 P2 S1 S2 Q x y env2) : dOwnE P1 P2 S1 S2 da db env Q := h
/-! pairs in lists and tuples of pairs -/
def pyP (p : DS.Pr) : PyData := .tuple [.int p.1, .str p.2]
theorem py_pair (p : DS.Pr) : pyOf (pairD p) = some (pyP p) := by simp [pairD, pyOf, pyOfs, pyP]
theorem py_pairs : ∀ ps : List DS.Pr, pyOfs (ps.map pairD) = some (ps.map pyP)
  | [] => rfl
  | p :: ps => by simp [pyOfs, py_pair, py_pairs ps]
theorem eqv_pair (p q : DS.Pr) : PyData.eqv (pyP p) (pyP q) = decide (p = q) := by
  simp only [pyP, PyData.eqv, PyData.eqvAll, Bool.and_true]
  rw [Bool.eq_iff_iff]
  simp only [Bool.and_eq_true, decide_eq_true_eq, beq_iff_eq]
  constructor
  · rintro ⟨h1, h2⟩; exact Prod.ext h1 h2
  · rintro rfl; exact ⟨rfl, rfl⟩
theorem inX_pairs (p : DS.Pr) (ps : List DS.Pr) : inX (pyP p) (ps.map pyP) = decide (p ∈ ps) := by
  unfold inX
  rw [List.any_map, Bool.eq_iff_iff]
  simp only [List.any_eq_true, Function.comp_apply, eqv_pair, decide_eq_true_eq]
  constructor
  · rintro ⟨x, hx, rfl⟩; exact hx
  · intro h; exact ⟨p, h, rfl⟩
def okP (p : DS.Pr) : Prop := PyData.strOk p.2 = true
theorem shaped_pair {p : DS.Pr} (h : okP p) : SeqAt.shaped (pyP p) = true := by
  unfold SeqAt.shaped
  have h' : PyData.strOk p.2 = true := h
  simp [pyP, PyData.canLay0, PyData.canLayAll0, PyData.depth, PyData.depthAll, h']
theorem lay_pairs : ∀ {ps : List DS.Pr}, (∀ p ∈ ps, okP p) → PyData.canLayAll0 (ps.map pyP) = true ∧ PyData.depthAll (ps.map pyP) ≤ 1
  | [], _ => by simp [PyData.canLayAll0, PyData.depthAll]
  | p :: ps, h => by
    obtain ⟨h1, h2⟩ := lay_pairs (ps := ps) fun q hq => h q (List.mem_cons_of_mem _ hq)
    have h' : PyData.strOk p.2 = true := h p List.mem_cons_self
    simp only [List.map_cons, PyData.canLayAll0, PyData.depthAll, h1, Bool.and_true]
    simp [pyP, PyData.canLay0, PyData.canLayAll0, PyData.depth, PyData.depthAll, h']
    omega
theorem shaped_pairs {ps : List DS.Pr} (h : ∀ p ∈ ps, okP p) : SeqAt.shaped (.list (ps.map pyP)) = true := by
  obtain ⟨h1, h2⟩ := lay_pairs h
  unfold SeqAt.shaped
  simp [PyData.canLay0, PyData.depth, h1]
  omega
theorem plain_pairs {ps : List DS.Pr} (h : ∀ p ∈ ps, okP p) : plainsB (ps.map pairD) = true ∧ depsD (ps.map pairD) ≤ 1 := by
  constructor
  · rw [plains_iff]
    intro x hx
    obtain ⟨p, hp, rfl⟩ := List.mem_map.mp hx
    have h' : PyData.strOk p.2 = true := h p hp
    simp [pairD, plainB, plainsB, h']
  · rw [deps_le]
    intro x hx
    obtain ⟨p, hp, rfl⟩ := List.mem_map.mp hx
    simp [pairD, depD, depsD]
/-- p in ps, p not in ps -/
theorem inXL_s {p : DS.Pr} {ps : List DS.Pr} {neg : Bool} (hp : okP p) (hs : ∀ q ∈ ps, okP q) (h : Q (.bl (if neg then !decide (p ∈ ps) else decide (p ∈ ps))) env) : OpK (fInX neg) Q (pairD p) (.lst (ps.map pairD)) env :=
  ⟨_, ⟨pyP p, ps.map pyP, py_pair p, .inl (by simp [pyOf, py_pairs]), shaped_pair hp, shaped_pairs hs, rfl⟩, by rw [inX_pairs]; exact h⟩
theorem inXT_s {p : DS.Pr} {ps : List DS.Pr} {neg : Bool} (hp : okP p) (hs : ∀ q ∈ ps, okP q) (h : Q (.bl (if neg then !decide (p ∈ ps) else decide (p ∈ ps))) env) : OpK (fInX neg) Q (pairD p) (.tup (ps.map pairD)) env :=
  ⟨_, ⟨pyP p, ps.map pyP, py_pair p, .inr (by simp [pyOf, py_pairs]), shaped_pair hp, shaped_pairs hs, rfl⟩, by rw [inX_pairs]; exact h⟩
theorem inXV_s {p : DS.Pr} {ps : List DS.Pr} {neg : Bool} {v : V} (e : env[i]? = some (.ow v (lstA K nf (ps.map pairD)))) (hp : okP p) (hs : ∀ q ∈ ps, okP q) (h : Q (.bl (if neg then !decide (p ∈ ps) else decide (p ∈ ps))) env) : InXVK K neg i Q (pairD p) env :=
  ⟨_, pyP p, ps.map pyP, .inr ⟨v, e⟩, py_pair p, py_pairs ps, shaped_pair hp, shaped_pairs hs, by rw [inX_pairs]; exact h⟩
end
end DL

/-! D-layer: cuts (what is true between two statements is said by hand, both ways meet there) -/
namespace DL
open PySem L2
section
variable {nf : Addr → Nat} {a b : DTS nf} {De : EndsD nf} {env : EV nf}
def sSeqC (a b : DTS nf) : DTS nf := sSeq a b
theorem seqC_id (h : sSeqC a b De env) : sSeqC a b De env := h
theorem seqC_s (h : a { De with nx := b De } env) : sSeqC a b De env := h
theorem cutC_s (P : EV nf → Prop) (h2 : ∀ R : EV nf → Prop, (∀ e, P e → R e) → a { De with nx := R } env) (h1 : ∀ e, P e → b De e) : sSeqC a b De env := h2 (b De) h1
theorem ite_cut {c : Bool} (P : EV nf → Prop) (h1 : c = true → ∀ R : EV nf → Prop, (∀ e, P e → R e) → a { De with nx := R } env) (h2 : c = false → ∀ R : EV nf → Prop, (∀ e, P e → R e) → b { De with nx := R } env) (h3 : ∀ e, P e → De.nx e) : if c = true then a De env else b De env := ite_s (fun e => h1 e De.nx h3) (fun e => h2 e De.nx h3)
variable {K : PySem.W.Frag} {i : Nat} {db : DT nf} {Q : D → EV nf → Prop} {y : D}
def EqVK (K : PySem.W.Frag) (neg : Bool) (i : Nat) (Q : D → EV nf → Prop) : D → EV nf → Prop := fun y env1 => ∃ xs d e, lsAt K env1 i xs ∧ pyOf (.lst xs) = some d ∧ pyOf y = some e ∧ SeqAt.shaped d = true ∧ SeqAt.shaped e = true ∧ Q (.bl (if neg then !PyData.eqv d e else PyData.eqv d e)) env1
theorem dEqV_s {v : V} {xs : List D} {neg : Bool} (e : env[i]? = some (.ow v (lstA K nf xs))) (h : db env (EqVK K neg i Q)) : dEqV K neg i db env Q := ⟨⟨xs, .inr ⟨v, e⟩⟩, h⟩
theorem dLenV_s {v : V} {xs : List D} (e : env[i]? = some (.ow v (lstA K nf xs))) (h : Q (.int xs.length) env) : dLenV K i env Q := ⟨xs, .inr ⟨v, e⟩, h⟩
theorem eqv_nil (l : List PyData) : PyData.eqv (.list l) (.list []) = l.isEmpty := by cases l <;> simp [PyData.eqv, PyData.eqvAll]
theorem eqVP_s {v : V} {ps : List DS.Pr} {neg : Bool} (e : env[i]? = some (.ow v (lstA K nf (ps.map pairD)))) (hs : ∀ q ∈ ps, okP q) (h : Q (.bl (if neg then !ps.isEmpty else ps.isEmpty)) env) : EqVK K neg i Q (.lst []) env := by
  refine ⟨_, .list (ps.map pyP), .list [], .inr ⟨v, e⟩, by simp only [pyOf, py_pairs]; rfl, rfl, shaped_pairs hs, by decide +kernel, ?_⟩
  rw [eqv_nil, show (ps.map pyP).isEmpty = ps.isEmpty from by cases ps <;> rfl]
  exact h
end
end DL

/-! own [], in, len, str by data -/
namespace DL
open PySem L2
section
variable [Anch] {X : Cx} {nf : Addr → Nat} {K : PySem.W.Frag} {CX : CXT} {k : Nat} {f C : Addr} {fd : FuncData} {ps : List Str} {sp : Sp} {E : XK} {a b : Expr} {pos : Pos} {da db : DT nf} {S : SpD nf} {W : WX} {xc : XcD nf}
/-! ### own [], which may raise -/
structure GetC (K : PySem.W.Frag) (C f : Addr) : Prop where
  hs : PySem.W.findIn K (.ref C) "__getitem__" = some (some (.ref f))
  hf : PySem.W.fnIn K f = true
  hn : PySem.W.isFn K (.ref f) = true
def PlainIx1 (b : Expr) : Prop := ∀ o i, subscripted b true o i = runValue (.builtin "lifetime.subscript" ⟨[o, i], []⟩)
theorem pe_getS {ta tb : TE} {ES : St → XK} (F : FnOk X.prog X.w X.K X.mg X.base CX k f fd ps sp) (hr : Room (k + 1) X.A) (hb : Binds X.K fd ps []) (hx : ∀ σ, PassesAt CX X σ (ES σ)) (o : GetC X.K C f) (ha : PE X a ta) (hb' : PE X b tb) (hs : PlainIx1 b) :
    PE X (.Subscript a b pos) (fun σ H Q => ta σ H fun x H1 => tb σ H1 fun y H2 => (∃ p dx fs, x = .ref p ∧ H2 p = some (.ins C dx fs)) ∧ sp [x, y] H2 Q (ES σ)) := by
  refine ⟨fun pins s σ H Q I h => PyProof.Rows.Subscript_ ?_⟩
  refine thn (ha.run pins s σ H _ I h) fun v s1 ⟨x, H1, I1, r1, q1⟩ => thn (hb'.run pins s1 σ H1 _ I1 q1) fun u s2 ⟨y, H2, I2, r2, ⟨p, dx, fs, ex, hp⟩, q2⟩ => ?_
  subst ex
  cases r1
  obtain ⟨m, hF⟩ := I2.fr
  obtain ⟨mA, O, _⟩ := ins_get I2.hok hp
  obtain ⟨od, J, _⟩ := O.look
  have hl : ([Value.ref p, u] ++ []).length = ps.length := F.len _ _ _ _ q2
  refine PySem.W.sub_K hF I2.mod.kin J o.hs o.hf o.hn (wpAny_call (codeAny_mono (F.run X.A.in1 X.stack s2 H2 ⟨[.ref p, u], []⟩ ([.ref p, u] ++ []) [.ref p, y] _ (ES σ) hr.in1 I2.env0.in1 (hb s2 [.ref p, u] I2.kIn hl) (.cons (rv_ref _) (.cons r2 .nil)) q2) fun r s' hq => ?_)) (hs _ _)
  cases r with
  | error e => exact hx σ pins H2 s2 e s' I2 hq
  | ok fl =>
    cases fl with
    | ret z => exact I2.after hq
    | next => exact False.elim hq
    | brk => exact False.elim hq
    | cont => exact False.elim hq
def dGetX (xc : XcD nf) (C : Addr) (S : SpX nf) (da db : DT nf) : DT nf := fun env Q => da env fun x env1 => db env1 fun y env2 => isO C x ∧ S [.fz x, .fz y] (fun d _ => Q d env2) fun C' fds _ => xc C' fds env2
theorem pb2 (env : EV nf) (x y : D) (as : List (SD nf)) : putBack env [.v x, .v y] as = env := by
  match as with
  | [] => simp [putBack]
  | [_] => simp [putBack]
  | _ :: _ :: _ => simp [putBack]
theorem de_getX {S : SpX nf} (F : FnOk X.prog X.w X.K X.mg X.base (L2.CX X.prog X.w) k f fd ps (toSpX X.K nf 2 S)) (hr : Room (k + 1) X.A) (hb : Binds X.K fd ps []) (o : GetC X.K C f) (tk : Takes X W) (lk : Link X.K nf W xc) (ha : DE X nf a da) (hb' : DE X nf b db) (hs : PlainIx1 b := by exact fun _ _ => rfl) :
    DE X nf (.Subscript a b pos) (dGetX xc C S da db) := pe_imp (pe_getS (ES := WE W) F hr hb (fun σ => passAt tk σ) o ha hb' hs) fun σ H Q ⟨env, fp, Qd, R, h, k⟩ =>
  lift_run R h fun v H1 x env1 fp1 r1 R1 c1 h1 => lift_run R1 h1 fun w H2 y env2 fp2 r2 R2 c2 ⟨⟨fs, ex⟩, hS⟩ => by
    subst ex
    have r1' := r1.mono (c2.stp R1)
    cases r1 with
    | obj h0 n0 l0 f0 =>
      refine ⟨⟨_, _, _, rfl, c2.stp R1 _ _ h0 ⟨n0, l0⟩⟩, ?_⟩
      exact spX_run (ads := [.v (.obj C fs), .v y]) lk R2 (.val r1' (.val r2 .nil)) rfl List.nodup_nil (fun i m => by cases m) (by simp only [pb2]; exact hS) fun u H3 d env3 fp3 r3 R3 c3 q => k u H3 d env3 fp3 r3 R3 ((c1.trans c2).trans c3) q
/-- a call in a def that no error leaves -/
theorem link0 : Link K nf (fun _ _ _ _ => False) (fun _ _ _ => False) := ⟨fun _ _ _ _ _ q => q⟩
/-! ### own in -/
structure InC (K : PySem.W.Frag) (C f : Addr) : Prop where
  hs : PySem.W.findIn K (.ref C) "__contains__" = some (some (.ref f))
  hf : PySem.W.isFn K (.ref f) = true
theorem op_inOwn (F : FnOk X.prog X.w X.K X.mg X.base CX k f fd ps sp) (hr : Room k X.A) (hb : Binds X.K fd ps []) (hx : Passes CX X E) (o : InC X.K C f) :
    OpR X (compareOp .In) (fun x y H Q => (∃ a dx fs, y = .ref a ∧ H a = some (.ins C dx fs)) ∧ sp [y, x] H (fun v H' => ∃ c, v = .bl c ∧ Q (.bl c) H') E) := by
  intro pins s σ H x y v u Q I rx ry ⟨⟨p, dx, fs, ey, hp⟩, h⟩
  subst ey
  cases ry
  obtain ⟨m, hF⟩ := I.fr
  obtain ⟨mA, O, _⟩ := ins_get I.hok hp
  obtain ⟨od, J, _⟩ := O.look
  refine PySem.W.in_K hF I.mod.kin J o.hs o.hf (wpAny_mono (run_fn F hr hb .nil hx I (.cons (rv_ref _) (.cons rx .nil)) h) (fun z s' ⟨w, H', I', r', c, ew, q⟩ => ?_) fun _ _ e => e)
  subst ew
  cases r'
  exact wpAny_truthy_bool ⟨.bl c, H', I', rfl, q⟩
def dInOwn (C : Addr) (S : SpD nf) (da db : DT nf) : DT nf := fun env Q => da env fun x env1 => db env1 fun y env2 => isO C y ∧ S [.fz y, .fz x] fun d _ => ∃ c, d = .bl c ∧ Q (.bl c) env2
theorem lift_inOwn (σ : St) (H : Hp) (Q : VK) (h : lift K nf (dInOwn C S da db) σ H Q) :
    tOp (fun x y H Q => (∃ a dx fs, y = .ref a ∧ H a = some (.ins C dx fs)) ∧ toSp K nf 2 S [y, x] H (fun v H' => ∃ c, v = .bl c ∧ Q (.bl c) H') E) (lift K nf da) (lift K nf db) σ H Q := by
  obtain ⟨env, fp, Qd, R, h, k⟩ := h
  refine lift_run R h fun v H1 x env1 fp1 r1 R1 c1 h1 => lift_run R1 h1 fun w H2 y env2 fp2 r2 R2 c2 ⟨⟨fs, ey⟩, hS⟩ => ?_
  subst ey
  have r1' := r1.mono (c2.stp R1)
  have r2' := r2
  cases r2 with
  | obj h0 n0 l0 f0 =>
    refine ⟨⟨_, _, _, rfl, h0⟩, ?_⟩
    exact sp_run (ads := [.v (.obj C fs), .v x]) (Qd := fun d env => ∃ c, d = .bl c ∧ Qd (.bl c) env) R2 (.val r2' (.val r1' .nil)) rfl List.nodup_nil (fun i m => by cases m) (by simp only [pb2]; exact hS) fun u H3 d env3 fp3 r3 R3 c3 ⟨c, ec, q⟩ => by
      subst ec
      exact ⟨c, rel_bl r3, k _ H3 _ env3 fp3 (.bl c) R3 ((c1.trans c2).trans c3) q⟩
theorem de_inOwn (F : FnOk X.prog X.w X.K X.mg X.base CX k f fd ps (toSp X.K nf 2 S)) (hr : Room k X.A) (hb : Binds X.K fd ps []) (hx : Passes CX X E) (o : InC X.K C f) (ha : DE X nf a da) (hb' : DE X nf b db) (hm : behindInMarks .In b = false := by rfl) :
    DE X nf (.Compare a [.In] [b] pos) (dInOwn C S da db) := pe_imp (pe_cmpR (op_inOwn F hr hb hx o) ha hb' hm) lift_inOwn
theorem dc_inOwn (F : FnOk X.prog X.w X.K X.mg X.base CX k f fd ps (toSp X.K nf 2 S)) (hr : Room k X.A) (hb : Binds X.K fd ps []) (hx : Passes CX X E) (o : InC X.K C f) (ha : DE X nf a da) (hb' : DE X nf b db) (hm : behindInMarks .In b = false := by rfl) :
    DC X nf (.Compare a [.In] [b] pos) (dBv (dInOwn C S da db)) := pt_imp (pt_cmpB (op_inOwn F hr hb hx o) ha hb' hm) (lift_B2 lift_inOwn)
end
section
variable [Anch] {X : Cx} {nf : Addr → Nat} {K : PySem.W.Frag} {CX : CXT} {k : Nat} {f C : Addr} {fd : FuncData} {ps : List Str} {sp : Sp} {E : XK} {e : Expr} {p pos : Pos} {da : DT nf} {S : SpD nf}
/-! ### own len, str -/
theorem run_fnAt {pins : List (Addr × Obj)} {σ : St} {H : Hp} {s : Shared} {Q : VK} {us : List Value} {vs : List V} {A' : Around} (F : FnOk X.prog X.w X.K X.mg X.base CX k f fd ps sp) (hr : Room k A') (e0 : Env0 X.prog X.w X.K X.mg X.base A' X.stack s H) (hb : Binds X.K fd ps []) (hx : Passes CX X E)
    (I : Inv X pins σ H s) (r : Vals vs us) (h : sp vs H Q E) : wpAny (model X.prog X.w) A' (call (.ref f) us) (EP X pins σ Q) X.xe s := by
  have hl : (us ++ []).length = ps.length := by rw [List.append_nil, ← r.length]; exact F.len _ _ _ _ h
  have bd := hb s us I.kIn hl
  rw [List.append_nil] at bd
  refine wpAny_call (codeAny_mono (F.run A' X.stack s H ⟨us, []⟩ us vs Q E hr e0 bd r h) fun o s' hq => ?_)
  cases o with
  | error e => exact hx pins σ H s e s' I hq
  | ok fl =>
    cases fl with
    | ret z => exact I.after hq
    | next => exact False.elim hq
    | brk => exact False.elim hq
    | cont => exact False.elim hq
structure LenC (K : PySem.W.Frag) (C f : Addr) : Prop where
  hs : PySem.W.findIn K (.ref C) "__len__" = some (some (.ref f))
  hf : PySem.W.isFn K (.ref f) = true
structure StrC (K : PySem.W.Frag) (C f : Addr) : Prop where
  hs : PySem.W.findIn K (.ref C) "__str__" = some (some (.ref f))
  hf : PySem.W.isFn K (.ref f) = true
def rOwn1 (C : Addr) (sp : Sp) (E : XK) (g : V → Prop) : List V → Hp → VK → Prop := fun xs H Q => ∃ a dx fs, xs = [V.ref a] ∧ H a = some (.ins C dx fs) ∧ sp [.ref a] H (fun v H' => g v ∧ Q v H') E
def isLen (v : V) : Prop := ∃ n : Int, v = .int n ∧ 0 ≤ n ∧ n < 2 ^ 62
def isText (v : V) : Prop := ∃ t : Str, v = .str t
theorem call_lenOwn (F : FnOk X.prog X.w X.K X.mg X.base CX k f fd ps sp) (hr : Room (k + 1) X.A) (hb : Binds X.K fd ps []) (hx : Passes CX X E) (o : LenC X.K C f) : CallR X (.builtin "len") (rOwn1 C sp E isLen) := by
  intro pins s σ H xs us Q I r ⟨a, dx, fs, ex, ha, h⟩
  subst ex
  cases r with
  | cons r0 r1 =>
    cases r1
    cases r0
    obtain ⟨m, hF⟩ := I.fr
    obtain ⟨mA, O, _⟩ := ins_get I.hok ha
    obtain ⟨od, J, _⟩ := O.look
    refine PySem.W.len_K hF I.mod.kin J o.hs o.hf (wpAny_mono (run_fnAt F hr.in1 I.env0.in1 hb hx I (.cons (rv_ref _) .nil) h) (fun u s' ⟨v, H', I', r', ⟨n, ev, h0, h1⟩, q⟩ => ?_) fun _ _ z => z)
    subst ev
    obtain ⟨t, rfl⟩ := r'
    exact ⟨⟨h0, by omega⟩, .int n, H', I'.tok _, ⟨_, rfl⟩, q⟩
theorem call_strOwn (F : FnOk X.prog X.w X.K X.mg X.base CX k f fd ps sp) (hr : Room (k + 2) X.A) (hb : Binds X.K fd ps []) (hx : Passes CX X E) (o : StrC X.K C f) : CallR X (.type "str") (rOwn1 C sp E isText) := by
  intro pins s σ H xs us Q I r ⟨a, dx, fs, ex, ha, h⟩
  subst ex
  cases r with
  | cons r0 r1 =>
    cases r1
    cases r0
    obtain ⟨mA, O, _⟩ := ins_get I.hok ha
    obtain ⟨od, J, _⟩ := O.look
    refine PySem.W.kso_call (hr.in1.in1.units0) I.kIn J o.hs o.hf (wpAny_mono (run_fnAt F hr.in1.in1 I.env0.in1.in1 hb hx I (.cons (rv_ref _) .nil) h) (fun u s' ⟨v, H', I', r', ⟨t, ev⟩, q⟩ => ?_) fun _ _ z => z)
    subst ev
    obtain ⟨tk, rfl⟩ := r'
    exact ⟨.str t, H', I', ⟨_, rfl⟩, q⟩
def lenDx (d : D) : Prop := ∃ n : Int, d = .int n ∧ 0 ≤ n ∧ n < 2 ^ 62
def textDx (d : D) : Prop := ∃ t : Str, d = .str t
/-- len(x), str(x) of an own object -/
def dOwn1 (C : Addr) (S : SpD nf) (g : D → Prop) (da : DT nf) : DT nf := fun env Q => da env fun x env1 => isO C x ∧ S [.fz x] fun d _ => g d ∧ Q d env1
theorem pb1 (env : EV nf) (x : D) (as : List (SD nf)) : putBack env [.v x] as = env := by
  match as with
  | [] => simp [putBack]
  | _ :: _ => simp [putBack]
theorem lift_own1 {g : D → Prop} {gv : V → Prop} (hg : ∀ H v d, Rel K nf H v d → g d → gv v) (σ : St) (H : Hp) (Q : VK) (h : lift K nf (dOwn1 C S g da) σ H Q) : tCB (rOwn1 C (toSp K nf 1 S) E gv) (tCons (lift K nf da) tNil) σ H Q := by
  obtain ⟨env, fp, Qd, R, h, k⟩ := h
  refine lift_run R h fun v H1 x env1 fp1 r1 R1 c1 ⟨⟨fs, ex⟩, hS⟩ => ?_
  subst ex
  have r1' := r1
  cases r1 with
  | obj h0 n0 l0 f0 =>
    refine ⟨_, _, _, rfl, h0, ?_⟩
    exact sp_run (ads := [.v (.obj C fs)]) (Qd := fun d env => g d ∧ Qd d env) R1 (.val r1' .nil) rfl List.nodup_nil (fun i m => by cases m) (by simp only [pb1]; exact hS) fun u H3 d env3 fp3 r3 R3 c3 ⟨hgd, q⟩ => ⟨hg H3 u d r3 hgd, k _ H3 _ env3 fp3 r3 R3 (c1.trans c3) q⟩
theorem de_lenOwn (F : FnOk X.prog X.w X.K X.mg X.base CX k f fd ps (toSp X.K nf 1 S)) (hr : Room (k + 1) X.A) (hb : Binds X.K fd ps []) (hx : Passes CX X E) (o : LenC X.K C f) (hg : Gl X "len") (hm : X.mg "len" = none) (ha : DE X nf e da) (hs : starEach [e] X.env = (false, eval e X.env) :: starEach [] X.env := by rfl) :
    DE X nf (.Call (.Name "len" p) [e] [] pos) (dOwn1 C S lenDx da) := pe_imp (pe_callB (call_lenOwn F hr hb hx o) hg hm boot_len (pa_cons ha pa_nil hs) (by decide) (by decide) hs) (lift_own1 fun H v d r ⟨n, ed, h0, h1⟩ => by subst ed; exact ⟨n, rel_int r, h0, h1⟩)
theorem de_strOwn (F : FnOk X.prog X.w X.K X.mg X.base CX k f fd ps (toSp X.K nf 1 S)) (hr : Room (k + 2) X.A) (hb : Binds X.K fd ps []) (hx : Passes CX X E) (o : StrC X.K C f) (hg : Gl X "str") (hm : X.mg "str" = none) (ha : DE X nf e da) (hs : starEach [e] X.env = (false, eval e X.env) :: starEach [] X.env := by rfl) :
    DE X nf (.Call (.Name "str" p) [e] [] pos) (dOwn1 C S textDx da) := pe_imp (pe_callTy (call_strOwn F hr hb hx o) hg hm (by decide +kernel) (pa_cons ha pa_nil hs) (by decide) (by decide) hs) (lift_own1 fun H v d r ⟨n, ed⟩ => by subst ed; exact ⟨n, rel_str r⟩)
end
end DL

/-! the truth of an own object by its len -/
namespace DL
section
open PySem PySem.W PySem.Calls PyProof.Rows
variable {prog : Program} {w : World} {A : Around} {E : Value → Shared → Prop} {s : Shared} {K : Frag} {x C f : Addr} {ox : Obj} {od : Option Obj}
theorem truthLen {Q : Bool → Shared → Prop} (X : K.In s.heap) (I : InstAt s.heap x ox C od) (h0 : findIn K (.ref C) "__bool__" = some none) (hs : findIn K (.ref C) "__len__" = some (some (.ref f))) (hf : isFn K (.ref f) = true)
    (h : wpAny (model prog w) A.in1 (call (.ref f) [.ref x]) (fun u s' => ∃ n t, u = .int n t ∧ 0 ≤ n ∧ n < 2 ^ 63 ∧ Q (n != 0) { s' with toks := s'.toks + 1 }) E s) : wpAny (model prog w) A (truthy (.ref x)) Q E s := by
  unfold truthy
  refine wpAny_bind (m := callSpecial? (.ref x) (Str.ofString "__bool__")) ?_
  · unfold callSpecial?
    refine wpAny_bind ?_
    refine wpAny_bind (I.type.here ((looks_findIn X h0).here ?_))
    refine wpAny_pure ?_
    refine wpAny_bind (wpAny_bind (I.type.here ((looks_findIn X hs).here ?_)))
    show wpAny _ _ (if (some (Value.ref f)).isNone = true then _ else _) _ _ _
    rw [if_neg (by simp)]
    refine wpAny_bind (m := runValue _) (wpAny_runValue (codeAny_builtin entry_len ?_))
    rw [Around.under_plainId plain_len _]
    unfold Builtin.«len»
    refine wpAny_bind (m := oneArg "len" _) (wpAny_pure ?_)
    refine wpAny_bind (m := callSpecial? (.ref x) (Str.ofString "__len__")) (special_fn X I hs (beq_iff_eq.mp hf) (wpAny_mono h (fun r s' ⟨n, t, er, n0, n1, q⟩ => ?_) fun _ _ z => z))
    subst er
    refine wpAny_bind (wpAny_holding (wpAny_pure (wpAny_bind (wpAny_letGo ?_))))
    show wpAny _ _ (if n < 0 then _ else _) _ _ _
    rw [if_neg (Int.not_lt.mpr n0)]
    show wpAny _ _ (if n ≥ 2 ^ 63 then _ else _) _ _ _
    rw [if_neg (Int.not_le.mpr n1)]
    exact wpAny_bind (wpAny_mkInt (wpAny_pure (wpAny_pure q)))
theorem boolLen {Q : Value → Shared → Prop} (X : K.In s.heap) (I : InstAt s.heap x ox C od) (h0 : findIn K (.ref C) "__bool__" = some none) (hs : findIn K (.ref C) "__len__" = some (some (.ref f))) (hf : isFn K (.ref f) = true)
    (h : wpAny (model prog w) A.in1.in1.in1 (call (.ref f) [.ref x]) (fun u s' => ∃ n t, u = .int n t ∧ 0 ≤ n ∧ n < 2 ^ 63 ∧ Q (.bool (n != 0)) { s' with toks := s'.toks + 1 }) E s) : wpAny (model prog w) A (call (.type "bool") [.ref x]) Q E s := by
  refine callType_codes (T := "bool") (Bi := Builtin.«object.__init__») (Q₁ := fun r s₁ => ∃ b, r = .bool b ∧ Q r s₁) PySem.F.called_bool (PySem.F.typeCall_bool_1 _) PySem.F.entry_object_init ?_ ?_
  · refine codeAny_of_tree ?_
    show wpAny _ A.in1.in1 (do checkBuiltinCall "bool.__new__" ⟨[.type "bool", .ref x], []⟩; again (.builtin "bool.__new__" ⟨[.type "bool", .ref x], []⟩)) _ _ s
    refine wpAny_bind (wpAny_of_eq (PySem.F.newCall_bool_1 _) (wpAny_pure ⟨plainId_quiet (by decide +kernel) _, codeAny_builtin PySem.F.entry_bool_new ?_⟩))
    rw [Around.under_plainId (by decide +kernel) _]
    have f1 := PySem.F.conv_sub_bool
    obtain ⟨hh, g, d, tk, os⟩ := s
    unfold Builtin.«bool.__new__»
    repeat (first | (with_reducible refine truthLen X I h0 hs hf (wpAny_mono h (fun u s' ⟨n, t, e, n0, n1, q⟩ => ⟨n, t, e, n0, n1, wpAny_pure ?_⟩) fun _ _ z => z)) | wp_step)
    exact ⟨_, rfl, q⟩
  · rintro obj s₁ ⟨b, rfl, hq⟩
    exact ⟨rfl, PySem.F.args_object_init_2 _ _, object_init_meets PySem.F.called_bool.init.lookup PySem.F.called_bool.made (by decide) prog w A.in1 _ s₁ ⟨rfl, rfl, hq⟩⟩
end
open PySem L2
section
variable [Anch] {X : Cx} {nf : Addr → Nat} {K : PySem.W.Frag} {CX : CXT} {k : Nat} {f C : Addr} {fd : FuncData} {ps : List Str} {sp : Sp} {E : XK} {e : Expr} {p pos : Pos} {da : DT nf} {S : SpD nf}
def rOwnB (C : Addr) (sp : Sp) (E : XK) : List V → Hp → VK → Prop := fun xs H Q => ∃ a dx fs, xs = [V.ref a] ∧ H a = some (.ins C dx fs) ∧ sp [.ref a] H (fun v H' => ∃ n : Int, v = .int n ∧ 0 ≤ n ∧ n < 2 ^ 62 ∧ Q (.bl (n != 0)) H') E
theorem call_boolOwn (F : FnOk X.prog X.w X.K X.mg X.base CX k f fd ps sp) (hr : Room (k + 3) X.A) (hb : Binds X.K fd ps []) (hx : Passes CX X E) (h0 : PySem.W.findIn X.K (.ref C) "__bool__" = some none) (o : LenC X.K C f) : CallR X (.type "bool") (rOwnB C sp E) := by
  intro pins s σ H xs us Q I r ⟨a, dx, fs, ex, ha, h⟩
  subst ex
  cases r with
  | cons r0 r1 =>
    cases r1
    cases r0
    obtain ⟨mA, O, _⟩ := ins_get I.hok ha
    obtain ⟨od, J, _⟩ := O.look
    refine boolLen I.kIn J h0 o.hs o.hf (wpAny_mono (run_fnAt F hr.in1.in1.in1 I.env0.in1.in1.in1 hb hx I (.cons (rv_ref _) .nil) h) (fun u s' ⟨v, H', I', r', n, ev, n0, n1, q⟩ => ?_) fun _ _ z => z)
    subst ev
    obtain ⟨t, rfl⟩ := r'
    exact ⟨n, t, rfl, n0, by omega, .bl (n != 0), H', I'.tok _, rfl, q⟩
/-- bool(x) of an own object that has a len alone -/
def dOwnB (C : Addr) (S : SpD nf) (da : DT nf) : DT nf := fun env Q => da env fun x env1 => isO C x ∧ S [.fz x] fun d _ => ∃ n : Int, d = .int n ∧ 0 ≤ n ∧ n < 2 ^ 62 ∧ Q (.bl (n != 0)) env1
theorem lift_ownB (σ : St) (H : Hp) (Q : VK) (h : lift K nf (dOwnB C S da) σ H Q) : tCB (rOwnB C (toSp K nf 1 S) E) (tCons (lift K nf da) tNil) σ H Q := by
  obtain ⟨env, fp, Qd, R, h, k⟩ := h
  refine lift_run R h fun v H1 x env1 fp1 r1 R1 c1 ⟨⟨fs, ex⟩, hS⟩ => ?_
  subst ex
  have r1' := r1
  cases r1 with
  | obj h0 n0 l0 f0 =>
    refine ⟨_, _, _, rfl, h0, ?_⟩
    exact sp_run (ads := [.v (.obj C fs)]) (Qd := fun d env => ∃ n : Int, d = .int n ∧ 0 ≤ n ∧ n < 2 ^ 62 ∧ Qd (.bl (n != 0)) env) R1 (.val r1' .nil) rfl List.nodup_nil (fun i m => by cases m) (by simp only [pb1]; exact hS) fun u H3 d env3 fp3 r3 R3 c3 ⟨n, ed, n0, n1, q⟩ => by
      subst ed
      exact ⟨n, rel_int r3, n0, n1, k _ H3 _ env3 fp3 (.bl _) R3 (c1.trans c3) q⟩
theorem de_boolOwn (F : FnOk X.prog X.w X.K X.mg X.base CX k f fd ps (toSp X.K nf 1 S)) (hr : Room (k + 3) X.A) (hb : Binds X.K fd ps []) (hx : Passes CX X E) (h0 : PySem.W.findIn X.K (.ref C) "__bool__" = some none) (o : LenC X.K C f) (hg : Gl X "bool") (hm : X.mg "bool" = none) (ha : DE X nf e da) (hs : starEach [e] X.env = (false, eval e X.env) :: starEach [] X.env := by rfl) :
    DE X nf (.Call (.Name "bool" p) [e] [] pos) (dOwnB C S da) := pe_imp (pe_callTy (call_boolOwn F hr hb hx h0 o) hg hm (by decide +kernel) (pa_cons ha pa_nil hs) (by decide) (by decide) hs) lift_ownB
end
end DL

/-! f'..', str of a text or an int -/
namespace DL
open PySem L2
section
variable [Anch] {X : Cx} {nf : Addr → Nat} {K : PySem.W.Frag} {e : Expr} {pos : Pos} {da : DT nf}
/-- {x} -/
def dFmt (da : DT nf) : DT nf := fun env Q => da env fun x env1 => (∃ y : Str, x = .str y ∧ y.length ≤ 1000000 ∧ Q (.str y) env1) ∨ ∃ i : Int, x = .int i ∧ i.natAbs.log2 < 1920 ∧ Q (.str (toString i)) env1
theorem de_fmt (h : DE X nf e da) : DE X nf (.FormattedValue e (-1) none pos) (dFmt da) := pe_imp (pe_fmt h) fun σ H Q ⟨env, fp, Qd, R, q, k⟩ => lift_run R q fun v H1 x env1 fp1 r1 R1 c1 h1 => by
  rcases h1 with ⟨y, ex, hl, q1⟩ | ⟨i, ex, hl, q1⟩
  · subst ex
    exact .inl ⟨y, rel_str r1, sz_ok hl, k _ H1 _ env1 fp1 (.str y) R1 c1 q1⟩
  · subst ex
    exact .inr ⟨i, rel_int r1, hl, k _ H1 _ env1 fp1 (.str _) R1 c1 q1⟩
/-- the parts' texts, one behind the other -/
def jDs : List (DT nf) → Str → EV nf → (Str → EV nf → Prop) → Prop
  | [], acc, env, Q => Q acc env
  | t :: ts, acc, env, Q => t env fun d env1 => ∃ y : Str, d = .str y ∧ acc.length + y.length ≤ 1000000 ∧ jDs ts (acc ++ y) env1 Q
inductive DJ (X : Cx) (nf : Addr → Nat) : List Expr → List (DT nf) → Prop
  | nil : DJ X nf [] []
  | cons {e : Expr} {es : List Expr} {t : DT nf} {ts : List (DT nf)} (h : DE X nf e t) (r : DJ X nf es ts) : DJ X nf (e :: es) (t :: ts)
theorem DJ.pj {es : List Expr} {ts : List (DT nf)} (h : DJ X nf es ts) : PJ X es (ts.map (lift X.K nf)) := by
  induction h with
  | nil => exact .nil
  | cons h _ ih => exact .cons h ih
theorem js_run {σ : St} : ∀ (ts : List (DT nf)) (acc : Str) (H : Hp) (env : EV nf) (fp : List Addr) (Qd : Str → EV nf → Prop) (Q : Str → Hp → Prop), EnvR K nf H σ env fp → jDs ts acc env Qd → (∀ y H' env' fp', EnvR K nf H' σ env' fp' → Ch fp H fp' H' → Qd y env' → Q y H') → tJs (ts.map (lift K nf)) acc σ H Q
  | [], acc, H, env, fp, Qd, Q, R, h, k => k acc H env fp R Ch.refl h
  | t :: ts, acc, H, env, fp, Qd, Q, R, h, k => by
    refine lift_run R h fun v H1 d env1 fp1 r1 R1 c1 ⟨y, ed, hl, q⟩ => ?_
    subst ed
    exact ⟨y, rel_str r1, sz_ok (by rw [show (acc ++ y).length = acc.length + y.length by show (acc ++ y).cps.size = _; rw [Str.cps_append, Array.size_append]; rfl]; exact hl), js_run ts (acc ++ y) H1 env1 fp1 Qd Q R1 q fun y' H' env' fp' R' c' q' => k y' H' env' fp' R' (c1.trans c') q'⟩
def dJoined (ts : List (DT nf)) : DT nf := fun env Q => jDs ts Str.empty env fun y env1 => Q (.str y) env1
theorem de_joined {v1 v2 : Expr} {rest : List Expr} {ts : List (DT nf)} (h : DJ X nf (v1 :: v2 :: rest) ts) : DE X nf (.JoinedStr (v1 :: v2 :: rest) pos) (dJoined ts) := pe_imp (pe_joined h.pj) fun σ H Q ⟨env, fp, Qd, R, q, k⟩ =>
  js_run ts Str.empty H env fp _ _ R q fun y H' env' fp' R' c' q' => k _ H' _ env' fp' (.str y) R' c' q'
/-- str of an int or a text -/
def fStrA : List D → D → Prop := fun ds d => fStrI ds d ∨ ∃ y : Str, ds = [.str y] ∧ d = .str y
theorem cd_strA : CbD K nf (fun xs H Q => (∃ i : Int, xs = [.int i] ∧ i.natAbs.log2 < 1920 ∧ Q (.str (toString i)) H) ∨ ∃ a, xs = [.str a] ∧ Q (.str a) H) fStrA := cd_strI.or (by
  rintro H vs ds d r ⟨y, rfl, rfl⟩ Q q
  obtain ⟨v, rfl, h⟩ := rels1x r
  cases h
  exact ⟨y, rfl, q _ H (.str _) Xt.refl⟩)
theorem call_strA : CallR X (.type "str") (fun xs H Q => (∃ i : Int, xs = [.int i] ∧ i.natAbs.log2 < 1920 ∧ Q (.str (toString i)) H) ∨ ∃ a, xs = [.str a] ∧ Q (.str a) H) := call_str_int.or SkE.call_str_str
end
section
variable {nf : Addr → Nat} {env : EV nf} {da : DT nf} {Q : D → EV nf → Prop} {ts : List (DT nf)}
def FmtK (Q : D → EV nf → Prop) : D → EV nf → Prop := fun x env1 => (∃ y : Str, x = .str y ∧ y.length ≤ 1000000 ∧ Q (.str y) env1) ∨ ∃ i : Int, x = .int i ∧ i.natAbs.log2 < 1920 ∧ Q (.str (toString i)) env1
theorem dFmt_s (h : da env (FmtK Q)) : dFmt da env Q := h
theorem fmtS_s {y : Str} (hl : y.length ≤ 1000000) (h : Q (.str y) env) : FmtK Q (.str y) env := .inl ⟨y, rfl, hl, h⟩
theorem fmtI_s {i : Int} (hl : i.natAbs.log2 < 1920) (h : Q (.str (toString i)) env) : FmtK Q (.int i) env := .inr ⟨i, rfl, hl, h⟩
theorem dJoined_s (h : jDs ts Str.empty env fun y env1 => Q (.str y) env1) : dJoined ts env Q := h
def JK (ts : List (DT nf)) (acc : Str) (QS : Str → EV nf → Prop) : D → EV nf → Prop := fun d env1 => ∃ y : Str, d = .str y ∧ acc.length + y.length ≤ 1000000 ∧ jDs ts (acc ++ y) env1 QS
theorem jNil_s {acc : Str} {QS : Str → EV nf → Prop} (h : QS acc env) : jDs [] acc env QS := h
theorem jCons_s {acc : Str} {QS : Str → EV nf → Prop} (h : da env (JK ts acc QS)) : jDs (da :: ts) acc env QS := h
theorem jK_s {acc y : Str} {QS : Str → EV nf → Prop} (hl : acc.length + y.length ≤ 1000000) (h : jDs ts (acc ++ y) env QS) : JK ts acc QS (.str y) env := ⟨y, rfl, hl, h⟩
end
end DL

/-! D-layer: partition, int(text), classmethods, cls(..) -/
namespace DL
open PySem L2
section
variable [Anch] {X : Cx} {nf : Addr → Nat} {K : PySem.W.Frag} {o e : Expr} {da db : DT nf} {apos pos p : Pos}
abbrev partD (a b : Str) : D := .tup [.str (Txt.partition a b).1, .str (Txt.partition a b).2.1, .str (Txt.partition a b).2.2]
def dPart (da db : DT nf) : DT nf := fun env Q => da env fun x env1 => ∃ a, x = .str a ∧ db env1 fun y env2 => ∃ b, y = .str b ∧ (b.length == 0) = false ∧ a.length ≤ 1000000 ∧ Q (partD a b) env2
theorem de_part (ho : DE X nf o da) (he : DE X nf e db) (hs : starEach [e] X.env = [(false, eval e X.env)] := by rfl) (hbase : attributeBase o "partition" X.env (eval o X.env) = eval o X.env := by rfl) (hline : (apos.endLine == pos.line) = true := by rfl) :
    DE X nf (.Call (.Attribute o "partition" apos) [e] [] pos) (dPart da db) := pe_imp (pe_partition ho he hs hbase hline) fun σ H Q ⟨env, fp, Qd, R, h, k⟩ => by
  refine lift_run R h fun v H1 x env1 fp1 r1 R1 c1 ⟨a, ex, h1⟩ => ?_
  subst ex
  cases r1
  refine ⟨⟨a, rfl⟩, lift_run R1 h1 fun w H2 y env2 fp2 r2 R2 c2 ⟨b, ey, hb, hl, q⟩ => ?_⟩
  subst ey
  cases r2
  refine ⟨a, b, rfl, rfl, hb, sz_ok hl, fun p hp => ?_⟩
  have x : Xt H2 (upd H2 p (.tup [.str (Txt.partition a b).1, .str (Txt.partition a b).2.1, .str (Txt.partition a b).2.2])) := Xt.new hp
  exact k _ _ _ env2 fp2 (.tup (.inl (.inl upd_same)) (.cons (.str _) (.cons (.str _) (.cons (.str _) .nil)))) (R2.ext x) ((c1.trans c2).trans x.ch) q
def fIntS : List D → D → Prop := fun ds d => ∃ a n, ds = [.str a] ∧ PySem.intText? a = some n ∧ a.length ≤ 640 ∧ d = .int n
theorem cd_intS : CbD K nf (fun xs H Q => ∃ a n, xs = [.str a] ∧ PySem.intText? a = some n ∧ a.length ≤ 640 ∧ Q (.int n) H) fIntS := by
  rintro H vs ds d r ⟨a, n, rfl, h1, h2, rfl⟩ Q q
  obtain ⟨v, rfl, h⟩ := rels1x r
  cases h
  exact ⟨a, n, rfl, h1, h2, q _ H (.int _) Xt.refl⟩
end
/-! ### C.m(..), a classmethod -/
section
open ClX (CRead CMet)
variable [Anch] {X : Cx} {nf : Addr → Nat} {K : PySem.W.Frag} {CX : CXT} {k n : Nat} {f C pr : Addr} {mc : Value} {fd : FuncData} {ps : List Str} {S : SpD nf} {dvs : List V} {dds : List D} {ds : List Value} {E : XK} {x m : Str} {p pos apos : Pos} {e o : Expr} {es : List Expr} {r : DM nf} {da : DT nf}
def dCMeth (n : Nat) (C : Addr) (S : SpD nf) (dds : List D) (da : DT nf) (r : DM nf) : DT nf := fun env Q => da env fun ob env0 => ob = .cls C ∧ r env0 fun ads env1 => ads.length + dds.length + 1 = n ∧ (slotsOf (ads ++ dds.map AD.v)).Nodup ∧ (∀ i ∈ slotsOf (ads ++ dds.map AD.v), i < env1.length) ∧
  S ((AD.v (.cls C) :: (ads ++ dds.map AD.v)).map (resolve env1)) fun d as' => Q d (putBack env1 (AD.v (.cls C) :: (ads ++ dds.map AD.v)) as')
theorem lift_cmeth (hdd : ∀ H, Rels K nf H dvs dds) (σ : St) (H : Hp) (Q : VK) (h : lift K nf (dCMeth n C S dds da r) σ H Q) : ClX.tCMeth C (fun vs H Q E => toSp K nf n S (vs ++ dvs) H Q E) E (lift K nf da) (liftM K nf r) σ H Q := by
  obtain ⟨env, fp, Qd, R, h, k⟩ := h
  refine lift_run R h fun v H0 ob env0 fp0 r0 R0 c0 ⟨eo, h⟩ => ?_
  subst eo
  cases r0 with
  | cls =>
    refine ⟨rfl, env0, fp0, _, R0, h, fun vs H1 ads env1 fp1 r1 R1 c1 ⟨hl, nd, hin, s⟩ => ?_⟩
    exact sp_run (ads := AD.v (.cls C) :: (ads ++ dds.map AD.v)) R1 (.val (.cls C) (r1.app id (hdd H1))) (by rw [List.length_cons, List.length_append, List.length_map]; exact hl) nd hin s fun v H' d env' fp' r' R' c' q => k v H' d env' fp' r' R' ((c0.trans c1).trans c') q
theorem de_cmeth {pl : Sem Bool} (he : DE X nf o da) (cr : CRead X.K C mc) (cm : CMet X.K C mc m pr f) (F : FnOk X.prog X.w X.K X.mg X.base CX k f fd ps (toSp X.K nf n S)) (hr : Room k X.A) (hb : Binds X.K fd ps ds) (hd : Vals dvs ds) (hdd : ∀ H, Rels X.K nf H dvs dds) (hx : Passes CX X E) (ha : DAM X nf (e :: es) r)
    (hst : starEach (e :: es) X.env = (false, eval e X.env) :: starEach es X.env := by rfl) (hpl : (backTo pos (starEach es X.env)).any (·.1) = false := by rfl)
    (ht : eval (.Call (.Attribute o m apos) (e :: es) [] pos) X.env = (do
      let ov ← eval o X.env
      standAt apos.atName
      let (f, first) ← holding [ov] (getMethod ov m pl)
      callWith pos f first (backTo pos (starEach (e :: es) X.env)) (backToKw pos (keywordEach [] X.env))) := by rfl) :
    DE X nf (.Call (.Attribute o m apos) (e :: es) [] pos) (dCMeth n C S dds da r) := pe_imp (ClX.pe_cmeth (pl := pl) he cr cm (F.raw hb hd) hr hx ha hst hpl ht) (lift_cmeth hdd)
/-! ### cls(..), cls a name of the def that holds the class -/
theorem pe_makeL {i : Nat} {sp : Sp} {t : TA} (M : Mk X.K C f) (F : FnOk X.prog X.w X.K X.mg X.base CX k f fd ps sp) (hr : Room (k + 1) X.A) (hN : X.N[i]? = some x) (hv : Vis X.env.scope x) (hb : Binds X.K fd ps ds) (hd : Vals dvs ds) (hx : Passes CX X E)
    (ha : PA X (e :: es) t) (hdb : (x == ("__debug__" : Str)) = false := by decide) (hcd : (x == ("__classdict__" : Str)) = false := by decide) (he : starEach (e :: es) X.env = (false, eval e X.env) :: starEach es X.env := by rfl) (hpl : (backTo pos (starEach es X.env)).any (·.1) = false := by rfl) :
    PE X (.Call (.Name x p) (e :: es) [] pos) (fun σ H Q => σ[i]? = some (some (.ref C)) ∧ tMake C sp dvs E t σ H Q) := by
  refine ⟨fun pins s σ H Q I h => ?_⟩
  obtain ⟨hs, ht⟩ := h
  refine wpAny_Call_Name_kw (thn ((pe_var (pos := p) hN hv hdb hcd).run pins s σ H (fun v H1 => v = .ref C ∧ H1 = H) I ⟨.ref C, hs, rfl, rfl⟩) fun u s1 ⟨v, H1, I1, r1, q1⟩ => ?_)
  obtain ⟨rfl, rfl⟩ := q1
  cases r1
  refine PySem.W.callWith_K (h₀ := X.base) I.ok.mod.kin M.kp (thn (ha.run pos pins s1 σ _ _ I1 ht) fun us s2 ⟨vs, H2, I2, r, q⟩ => ⟨I2.kIn, ?_⟩) he hpl
  exact run_make M F hr hb hd hx I2 r q
def dMakeL (K : PySem.W.Frag) (i n : Nat) (C : Addr) (S : SpD nf) (dds : List D) (r : DM nf) : DT nf := fun env Q => env[i]? = some (.fz (.cls C)) ∧ dMake K n C S dds r env Q
theorem de_makeL {i : Nat} (hN : X.N[i]? = some x) (hv : Vis X.env.scope x) (M : Mk X.K C f) (F : FnOk X.prog X.w X.K X.mg X.base CX k f fd ps (toSp X.K nf n S)) (hr : Room (k + 1) X.A) (hb : Binds X.K fd ps ds) (hd : Vals dvs ds) (hdd : ∀ H, Rels X.K nf H dvs dds) (hx : Passes CX X E)
    (ha : DAM X nf (e :: es) r) (hdb : (x == ("__debug__" : Str)) = false := by decide) (hcd : (x == ("__classdict__" : Str)) = false := by decide) (he : starEach (e :: es) X.env = (false, eval e X.env) :: starEach es X.env := by rfl) (hpl : (backTo pos (starEach es X.env)).any (·.1) = false := by rfl) :
    DE X nf (.Call (.Name x p) (e :: es) [] pos) (dMakeL X.K i n C S dds r) := pe_imp (pe_makeL M F hr hN hv hb hd hx ha hdb hcd he hpl) fun σ H Q ⟨env, fp, Qd, R, ⟨h1, h2⟩, k⟩ => by
  obtain ⟨o, fi, e1, s1, _, _⟩ := R.at h1
  obtain ⟨_, v, ev, rv⟩ := s1
  cases rv
  refine ⟨by rw [e1, ev], lift_make hdd σ H Q ⟨env, fp, Qd, R, h2, k⟩⟩
end
/-! ### steps -/
section
variable {nf : Addr → Nat} {env env' : EV nf} {da db : DT nf} {Q : D → EV nf → Prop} {d : D} {n i : Nat} {C : Addr} {S : SpD nf} {dds : List D} {rm : DM nf} {K : PySem.W.Frag}
def Own1K (C : Addr) (S : SpD nf) (g : D → Prop) (Q : D → EV nf → Prop) : D → EV nf → Prop := fun x env1 => isO C x ∧ S [.fz x] fun d _ => g d ∧ Q d env1
theorem dOwn1_s {g : D → Prop} (h : da env (Own1K C S g Q)) : dOwn1 C S g da env Q := h
theorem own1K_s {g : D → Prop} {fs : List (Str × D)} (h : S [.fz (.obj C fs)] fun d _ => g d ∧ Q d env) : Own1K C S g Q (.obj C fs) env := ⟨⟨fs, rfl⟩, h⟩
def PartK2 (a : Str) (Q : D → EV nf → Prop) : D → EV nf → Prop := fun y env2 => ∃ b, y = .str b ∧ (b.length == 0) = false ∧ a.length ≤ 1000000 ∧ Q (partD a b) env2
def PartK (db : DT nf) (Q : D → EV nf → Prop) : D → EV nf → Prop := fun x env1 => ∃ a, x = .str a ∧ db env1 (PartK2 a Q)
theorem dPart_s (h : da env (PartK db Q)) : dPart da db env Q := h
theorem partK_s {a : Str} (h : db env (PartK2 a Q)) : PartK db Q (.str a) env := ⟨a, rfl, h⟩
theorem partK2_s {a b : Str} (h1 : (b.length == 0) = false) (h2 : a.length ≤ 1000000) (h : Q (partD a b) env) : PartK2 a Q (.str b) env := ⟨b, rfl, h1, h2, h⟩
theorem cbIntS_s {a : Str} {n : Int} (h1 : PySem.intText? a = some n) (h2 : a.length ≤ 640) (h : Q (.int n) env) : CbK fIntS Q [.str a] env := ⟨_, ⟨a, n, rfl, h1, h2, rfl⟩, h⟩
theorem dMakeL_s (e : env[i]? = some (.fz (.cls C))) (h : dMake K n C S dds rm env Q) : dMakeL K i n C S dds rm env Q := ⟨e, h⟩
def CMethK2 (n : Nat) (C : Addr) (S : SpD nf) (dds : List D) (Q : D → EV nf → Prop) : List AD → EV nf → Prop := fun ads env1 => ads.length + dds.length + 1 = n ∧ (slotsOf (ads ++ dds.map AD.v)).Nodup ∧ (∀ i ∈ slotsOf (ads ++ dds.map AD.v), i < env1.length) ∧
  S ((AD.v (.cls C) :: (ads ++ dds.map AD.v)).map (resolve env1)) fun d as' => Q d (putBack env1 (AD.v (.cls C) :: (ads ++ dds.map AD.v)) as')
def CMethK (n : Nat) (C : Addr) (S : SpD nf) (dds : List D) (rm : DM nf) (Q : D → EV nf → Prop) : D → EV nf → Prop := fun ob env0 => ob = .cls C ∧ rm env0 (CMethK2 n C S dds Q)
theorem dCMeth_s (h : da env (CMethK n C S dds rm Q)) : dCMeth n C S dds da rm env Q := h
theorem cmethK_s (h : rm env (CMethK2 n C S dds Q)) : CMethK n C S dds rm Q (.cls C) env := ⟨rfl, h⟩
theorem cmethK2_s {ads ads' : List AD} {as : List (SD nf)} (h1 : ads.length + dds.length + 1 = n) (e1 : ads ++ dds.map AD.v = ads') (h2 : ndB (slotsOf ads') = true) (h3 : (slotsOf ads').all (fun i => Nat.blt i env.length) = true)
    (e2 : (AD.v (.cls C) :: ads').map (resolve env) = as) (h : S as (PutK env (AD.v (.cls C) :: ads') Q)) : CMethK2 n C S dds Q ads env := by subst e1; subst e2; exact ⟨h1, nd_of h2, ofAll h3, h⟩
end
end DL

/-! the words and texts of pairs -/
namespace DL
open PySem
abbrev cls' (s : Str) : List Nat := s.cps.toList
theorem cl2_app (x y : Str) : (x ++ y).cps.toList = x.cps.toList ++ y.cps.toList := by rw [Str.cps_append, Array.toList_append]
theorem cl2_ext {x y : Str} (h : x.cps.toList = y.cps.toList) : x = y := Str.ext' (Array.toList_inj.mp h)
theorem cl2_len (x : Str) : x.length = x.cps.toList.length := by simp [Str.length]
theorem emp_app (x : Str) : Str.empty ++ x = x := cl2_ext (by rw [cl2_app]; rfl)
def wordP (p : DS.Pr) : Str := (Str.ofString (toString p.1) ++ Str.ofString ":") ++ p.2
def textP (ps : List DS.Pr) : Str := Txt.join (Str.ofString " ") (ps.map wordP)
/-- a pair that can be written: neither a colon nor a space in its name -/
structure WrP (p : DS.Pr) : Prop where
  lo : 0 ≤ p.1
  hi : p.1 < 10 ^ 60
  ne : p.2.cps.toList ≠ []
  len : p.2.length ≤ 12
  col : 58 ∉ p.2.cps.toList
  spc : 32 ∉ p.2.cps.toList
section
variable {p : DS.Pr}
theorem WrP.num (h : WrP p) : ∃ n : Nat, p.1 = (n : Int) ∧ n < 10 ^ 60 := by
  refine ⟨p.1.toNat, (Int.toNat_of_nonneg h.lo).symm, ?_⟩
  have := h.hi
  have h0 := h.lo
  have e : ((10 ^ 60 : Nat) : Int) = 10 ^ 60 := by decide
  omega
theorem cl_num {n : Nat} : (Str.ofString (toString ((n : Nat) : Int))).cps.toList = TL.numL n := TL.tl_num n
theorem WrP.cl (h : WrP p) : ∃ n : Nat, p.1 = (n : Int) ∧ n < 10 ^ 60 ∧ (wordP p).cps.toList = TL.numL n ++ (58 :: p.2.cps.toList) := by
  obtain ⟨n, e, hn⟩ := h.num
  refine ⟨n, e, hn, ?_⟩
  unfold wordP
  rw [cl2_app, cl2_app, e, cl_num, List.append_assoc]
  rfl
theorem num_len {n : Nat} (h : n < 10 ^ 60) : (TL.numL n).length ≤ 60 := TL.numL_len (by decide) h
theorem WrP.part (h : WrP p) : Txt.partition (wordP p) (Str.ofString ":") = (Str.ofString (toString p.1), Str.ofString ":", p.2) := by
  obtain ⟨n, e, hn, ec⟩ := h.cl
  have e1 : wordP p = SX.S (TL.numL n ++ (58 :: [] ++ p.2.cps.toList)) := cl2_ext ec
  have e2 : (Str.ofString ":") = SX.S [58] := rfl
  rw [e1, e2, SX.partition_some (by simp) (SX.par_head p.2.cps.toList (TL.numL_free (by decide))), SX.S_tl, e]
  rw [SX.num_S n]
theorem WrP.wlen (h : WrP p) : (wordP p).length ≤ 73 := by
  obtain ⟨n, e, hn, ec⟩ := h.cl
  have h2 := h.len
  rw [cl2_len] at h2
  rw [cl2_len, ec, List.length_append, List.length_cons]
  have := num_len hn
  omega
theorem WrP.wspc (h : WrP p) : 32 ∉ (wordP p).cps.toList := by
  obtain ⟨n, e, hn, ec⟩ := h.cl
  rw [ec]
  intro m
  rcases List.mem_append.mp m with m | m
  · exact TL.numL_free (by decide) m
  · rcases List.mem_cons.mp m with m | m
    · cases m
    · exact h.spc m
theorem WrP.wne (h : WrP p) : (wordP p).cps.toList ≠ [] := by
  obtain ⟨n, e, hn, ec⟩ := h.cl
  rw [ec]
  simp
theorem WrP.int (h : WrP p) : PySem.intText? (Str.ofString (toString p.1)) = some p.1 := by
  obtain ⟨n, e, hn⟩ := h.num
  rw [e]
  exact TL.int_num (by have := num_len hn; omega)
theorem WrP.nlen (h : WrP p) : 1 ≤ (Str.ofString (toString p.1)).length ∧ (Str.ofString (toString p.1)).length ≤ 60 := by
  obtain ⟨n, e, hn⟩ := h.num
  rw [e, cl2_len, cl_num]
  refine ⟨?_, num_len hn⟩
  have := TL.numL_ne n
  cases h : TL.numL n with
  | nil => exact absurd h this
  | cons c r => simp
theorem WrP.ndig (h : WrP p) : ∀ c ∈ (Str.ofString (toString p.1)).cps.toList, 48 ≤ c ∧ c ≤ 57 := by
  obtain ⟨n, e, hn⟩ := h.num
  rw [e, cl_num]
  intro c hc
  apply Classical.byContradiction
  intro z
  exact TL.numL_free (n := n) (s := c) (by omega) hc
theorem numL_head : ∀ (n : Nat), ∀ c r, TL.numL n = c :: r → c = 48 → r = [] := by
  intro n
  induction n using Nat.strongRecOn with
  | ind n ih =>
    intro c r e ec
    by_cases h : n < 10
    · rw [TL.numL_lt h] at e
      cases e
      rfl
    · have h' : 10 ≤ n := by omega
      rw [TL.numL_step h'] at e
      cases e2 : TL.numL (n / 10) with
      | nil => exact absurd e2 (TL.numL_ne _)
      | cons d s =>
        rw [e2, List.cons_append] at e
        obtain ⟨rfl, rfl⟩ := List.cons.inj e
        have hs := ih (n / 10) (by omega) d s e2 ec
        subst hs
        have := TL.numL_val (n / 10)
        rw [e2, ec] at this
        have h0 : NumText.digitsVal [48] = 0 := rfl
        omega
/-- a leading zero stands alone -/
theorem WrP.zero (h : WrP p) {c : Nat} {r : List Nat} (e : (Str.ofString (toString p.1)).cps.toList = c :: r) (ec : c = 48) : (Str.ofString (toString p.1)).length = 1 := by
  obtain ⟨n, e0, hn⟩ := h.num
  rw [e0, cl_num] at e
  have := numL_head n c r e ec
  subst this
  rw [e0, cl2_len, cl_num, e]
  rfl
theorem WrP.log (h : WrP p) : p.1.natAbs.log2 < 1920 := by
  obtain ⟨n, e, hn⟩ := h.num
  rw [e, Int.natAbs_natCast]
  by_cases hz : n = 0
  · subst hz; decide
  · have : n < 2 ^ 200 := Nat.lt_trans hn (by decide)
    have h6 : n.log2 < 200 := (Nat.log2_lt hz).mpr this
    omega
end
theorem text_cl (ps : List DS.Pr) : textP ps = SX.S (TL.joinL [32] (ps.map fun p => (wordP p).cps.toList)) := by
  unfold textP
  have e : ps.map wordP = (ps.map fun p => (wordP p).cps.toList).map SX.S := by
    rw [List.map_map]
    exact List.map_congr_left fun p _ => (SX.S_tl (wordP p)).symm
  rw [e]
  exact SX.join_S [32] _
theorem text_nil : textP [] = Str.empty := by rw [text_cl]; rfl
theorem text_split {ps : List DS.Pr} (hne : ps ≠ []) (h : ∀ p ∈ ps, WrP p) : Txt.split (textP ps) (Str.ofString " ") = ps.map wordP := by
  rw [text_cl, show (Str.ofString " ") = SX.S [32] from rfl, SX.split_S (by simp) (by decide), SX.spl_join (by simpa using hne) (fun q hq => by
    obtain ⟨p, hp, rfl⟩ := List.mem_map.mp hq
    exact (h p hp).wspc), List.map_map]
  exact List.map_congr_left fun p _ => SX.S_tl (wordP p)
theorem join_ne {a b : List Nat} {l : List (List Nat)} (h : b ≠ []) : TL.joinL a (b :: l) ≠ [] := by
  intro e
  cases b with
  | nil => exact h rfl
  | cons c r =>
    cases l with
    | nil => simp [TL.joinL] at e
    | cons x l => simp [TL.joinL] at e
theorem text_ne {ps : List DS.Pr} (hne : ps ≠ []) (h : ∀ p ∈ ps, WrP p) : textP ps ≠ Str.empty := by
  cases ps with
  | nil => exact absurd rfl hne
  | cons p ps =>
    rw [text_cl]
    intro e
    have e2 := congrArg (fun s : Str => s.cps.toList) e
    exact join_ne (h p List.mem_cons_self).wne e2
theorem join_len (a : List Nat) : ∀ l : List (List Nat), (TL.joinL a l).length ≤ (l.map (·.length)).sum + l.length * a.length
  | [] => by simp [TL.joinL]
  | [x] => by simp [TL.joinL]
  | x :: y :: l => by
    have ih := join_len a (y :: l)
    have e : TL.joinL a (x :: y :: l) = x ++ (a ++ TL.joinL a (y :: l)) := by simp [TL.joinL]
    rw [e, List.length_append, List.length_append, List.map_cons, List.sum_cons, List.length_cons, Nat.add_mul]
    omega
theorem words_sum : ∀ {ps : List DS.Pr}, (∀ p ∈ ps, WrP p) → ((ps.map wordP).map (·.length)).sum ≤ ps.length * 73
  | [], _ => by simp
  | p :: ps, h => by
    have ih := words_sum fun q hq => h q (List.mem_cons_of_mem _ hq)
    have := (h p List.mem_cons_self).wlen
    rw [List.map_cons, List.map_cons, List.sum_cons, List.length_cons, Nat.add_mul]
    omega
theorem text_len {ps : List DS.Pr} (h : ∀ p ∈ ps, WrP p) : (textP ps).length ≤ ps.length * 74 := by
  rw [text_cl, SX.S_len]
  have h1 := join_len [32] (ps.map fun p => (wordP p).cps.toList)
  have h2 := words_sum h
  have e : (ps.map fun p => (wordP p).cps.toList).map (·.length) = (ps.map wordP).map (·.length) := by
    rw [List.map_map, List.map_map]
    exact List.map_congr_left fun p _ => (cl2_len _).symm
  rw [e, List.length_map] at h1
  simp only [List.length_cons, List.length_nil] at h1
  omega
end DL

/-! D-layer: list(reversed(x)); own == with any kind; own not in -/
namespace DL
section
open PySem PySem.W PySem.Calls PyProof.Rows
variable {prog : Program} {w : World} {A : Around} {E : Value → Shared → Prop} {s : Shared} {it l dst : Addr} {arr : Array Value}
/-- dst takes the items of a walk backwards -/
theorem rv_extend {R : Result → Shared → Prop} (nh : A.handled = none) (ri : s.heap.IsRevIter it l ((arr.size : Int) - 1)) (li : s.heap.IsList l arr) (ne : l ≠ it) (d1 : dst ≠ it) (d2 : dst ≠ l) (fits : arr.size ≤ sizeLine) (res : Value) (c0 : Nat)
    (hd : s.heap.get? dst = some { cls := .type "list", data := .seq #[] c0 })
    (fin : ∀ hp tk ac c1, (∀ b o, b ≠ dst → b ≠ it → s.heap.get? b = some o → hp.get? b = some o) → hp.get? dst = some { cls := .type "list", dict := none, data := .seq ac c1, slots := #[] } → ItemsOf (fun i v => arr[arr.size - 1 - i]? = some v) ac arr.size → R (.ok (.ret res)) { s with heap := hp, toks := tk }) :
    wpAny (model prog w) A.in1 (Builtin.List.listExtendWith (.ref dst) (.ref it) res) (fun z st => match z with | .done f => R (.ok f) st | .again cc => cc.quiet = true ∧ codeAny (model prog w) A cc R st) (fun e st => R (.error e) st) s := by
  have wk := (Walks.listRev (prog := prog) (w := w) (A := A.in1) nh it l ne arr).toS
  have out : dst ∉ [it, l] := by simp [d1, d2]
  have ty : s.TypeIs (.ref it) "list_reverseiterator" := ri.typeIs
  have sm : Builtin.List.listSameRef (.ref dst) (.ref it) = false := by simp [Builtin.List.listSameRef, d1]
  unfold Builtin.List.listExtendWith
  refine wpAny_bind (wpAny_typeOf ty ?_)
  rw [if_neg (by rw [sm]; decide)]
  refine wpAny_bind (wpAny_pyIter_revIter ri ?_)
  refine wpAny_bind (wpAny_holding ?_)
  unfold Builtin.List.listLengthHint
  refine wpAny_bind (wpAny_specialOf ty RT.nolen_lri ?_)
  show wpAny _ A.in1 (specialOf (.ref it) (Str.ofString "__length_hint__") >>= _) _ _ _
  refine wpAny_bind (wpAny_specialOf ty RT.hint_lri ?_)
  generalize hx : ("list_reverseiterator.__length_hint__" : String) = nm
  wp_delta
  rw [show splitId nm = some ("list_reverseiterator", "__length_hint__") from (by subst hx; decide +kernel)]
  subst hx
  refine wpAny_bind (wpAny_isInstance (b := true) ty (by rw [isSubtype_type]; kernel_rfl) ?_)
  refine wpAny_pure ?_
  rw [if_neg (by decide)]
  have z0 : ((arr.size : Nat) : Int) - 1 - ((0 : Nat) : Int) = (arr.size : Int) - 1 := by omega
  refine wpAny_pure ⟨plainId_quiet F.plain_extend_loop _, codeAny_extend_loopS wk fits _ out _ arr.size 0 _ _ _ rfl (Nat.zero_le _) ⟨Nat.zero_le _, by rw [z0]; exact ri, li⟩ hd (ItemsOf.nil _) fun st ac c1 mv at' its => ?_⟩
  rw [Moved.eq_with mv]
  refine fin st.heap st.toks ac c1 (fun b o b1 b2 e => mv.heap b o (fun mem => ?_) e) at' its
  rcases List.mem_cons.mp mem with q | q
  · exact b1 q
  · exact b2 (List.mem_singleton.mp q)
theorem rv_init {R : Result → Shared → Prop} (nh : A.handled = none) (ri : s.heap.IsRevIter it l ((arr.size : Int) - 1)) (li : s.heap.IsList l arr) (ne : l ≠ it) (d1 : dst ≠ it) (d2 : dst ≠ l) (fits : arr.size ≤ sizeLine)
    (hd : s.heap.get? dst = some { cls := .type "list", data := .seq #[] })
    (fin : ∀ hp tk ac c1, (∀ b o, b ≠ dst → b ≠ it → s.heap.get? b = some o → hp.get? b = some o) → hp.get? dst = some { cls := .type "list", dict := none, data := .seq ac c1, slots := #[] } → ItemsOf (fun i v => arr[arr.size - 1 - i]? = some v) ac arr.size → R (.ok (.ret .none)) { s with heap := hp, toks := tk }) :
    wpAny (model prog w) A.in1 (Builtin.«list.__init__» ⟨[.ref dst, .ref it], []⟩) (fun z st => match z with | .done f => R (.ok f) st | .again cc => cc.quiet = true ∧ codeAny (model prog w) A cc R st) (fun e st => R (.error e) st) s := by
  show wpAny _ _ (do let old ← Builtin.List.listItems (.ref dst); Builtin.List.listUpdate (.ref dst) (fun _ => #[]); letGo old.toList.reverse; Builtin.List.listExtendWith (.ref dst) (.ref it) .none) _ _ s
  refine wpAny_bind ?_
  unfold Builtin.List.listItems
  refine wpAny_bind (wpAny_seqItems hd rfl (wpAny_pure ?_))
  show wpAny _ _ (updateSeq dst (fun _ => #[]) >>= fun _ => letGo (#[] : Array Value).toList.reverse >>= fun _ => Builtin.List.listExtendWith (.ref dst) (.ref it) .none) _ _ s
  refine wpAny_bind (wpAny_updateSeq hd rfl ?_)
  have h2 := Heap.get?_update_self (Obj.mapSeq (fun _ => (#[] : Array Value))) hd rfl
  have ot : ∀ b o, b ≠ dst → s.heap.get? b = some o → (s.heap.update dst (Obj.mapSeq (fun _ => (#[] : Array Value)))).get? b = some o := fun b o nb e => (Heap.get?_update_other _ _ (Ne.symm nb)).trans e
  refine wpAny_bind (wpAny_letGo ?_)
  refine rv_extend nh (ri.at fun o e => ot it o d1.symm e) (li.at fun o e => ot l o d2.symm e) ne d1 d2 fits .none _ h2 (fun hp tk ac c1 kp at' its => ?_)
  exact fin hp tk ac c1 (fun b o b1 b2 e => kp b o b1 b2 (ot b o b1 e)) at' its
theorem rv_call {Q : Value → Shared → Prop} (nh : A.handled = none) (ri : s.heap.IsRevIter it l ((arr.size : Int) - 1)) (li : s.heap.IsList l arr) (ne : l ≠ it) (fits : arr.size ≤ sizeLine)
    (fin : ∀ hp tk ac c1, (∀ b o, b ≠ it → s.heap.get? b = some o → hp.get? b = some o) → hp.get? s.heap.objs.size = some { cls := .type "list", dict := none, data := .seq ac c1, slots := #[] } → ItemsOf (fun i v => arr[arr.size - 1 - i]? = some v) ac arr.size → Q (.ref s.heap.objs.size) { s with heap := hp, toks := tk }) :
    wpAny (model prog w) A (call (.type "list") [.ref it]) Q E s := by
  obtain ⟨oi, hi, _⟩ := id ri
  obtain ⟨ol, hl, _⟩ := id li
  have t1 : s.heap.objs.size ≠ it := Nat.ne_of_gt (Heap.lt_size hi)
  have t2 : s.heap.objs.size ≠ l := Nat.ne_of_gt (Heap.lt_size hl)
  refine callType_codes (Q₁ := fun ob st => ob = .ref s.heap.objs.size ∧ st = { s with heap := s.heap.push { cls := .type "list", data := .seq #[] } }) PySem.F.called_list (PySem.F.typeCall_list_1 _) PySem.F.entry_list_init (code_list_new _ ⟨rfl, rfl⟩) fun ob st hs => ?_
  obtain ⟨rfl, rfl⟩ := hs
  have hd : (s.heap.push { cls := .type "list", data := .seq #[] }).get? s.heap.objs.size = some { cls := .type "list", data := .seq #[] } := Heap.get?_push_size _ rfl
  refine ⟨⟨_, hd, rfl⟩, PySem.F.args_list_init_2 _ _, rv_init (A := A.in1) (s := { s with heap := s.heap.push { cls := .type "list", data := .seq #[] } }) nh (ri.at fun o e => Heap.get?_push_of_some _ e) (li.push _) ne t1 t2 fits hd (fun hp tk ac c1 kp at' its => ?_)⟩
  exact ⟨rfl, fin hp tk ac c1 (fun b o b2 e => kp b o (Nat.ne_of_lt (Heap.lt_size e)) b2 (Heap.get?_push_of_some _ e)) at' its⟩
end
section
open PySem PySem.Spec PyProof.Rows L2
variable [Anch] {X : Cx} {nf : Addr → Nat} {K : PySem.W.Frag}
/-- list(reversed(x)), x a list: a new list -/
def tLstRev (K : PySem.W.Frag) (te : TE) : TE := fun σ H Q => te σ H fun v H1 => ∃ (a : Addr) (xs : List V), v = .ref a ∧ SqL K H1 a xs ∧ ∀ q, H1 q = none → Q (.ref q) (upd H1 q (.lst xs.reverse))
theorem pe_lstRev {e : Expr} {te : TE} {p p2 pos pos2 : Pos} (hc : X.calm = true) (hg : Gl X "list") (hm : X.mg "list" = none) (hg2 : Gl X "reversed") (hm2 : X.mg "reversed" = none) (he : PE X e te) (hs : starEach [e] X.env = (false, eval e X.env) :: starEach [] X.env := by rfl)
    (hs2 : starEach [.Call (.Name "reversed" p2) [e] [] pos2] X.env = (false, eval (.Call (.Name "reversed" p2) [e] [] pos2) X.env) :: starEach [] X.env := by rfl) : PE X (.Call (.Name "list" p) [.Call (.Name "reversed" p2) [e] [] pos2] [] pos) (tLstRev X.K te) := by
  refine ⟨fun pins s σ H Q I h => ?_⟩
  refine Call_ (ld_blt I hg hm boot_list (PyProof.Rows.callWith_type1 (args_cons (Call_ (ld_blt I hg2 hm2 PyProof.Rows.boot_reversed (PyProof.Rows.callWith_type1 (args_cons (thn (he.run pins s σ H _ I h) fun u s1 ⟨v, H1, I1, rr, q1⟩ => args_nil ?_) hs) hs rfl))) hs2) hs2 rfl))
  obtain ⟨a, xs, ev, hq, q⟩ := q1
  subst ev
  obtain rfl : u = Value.ref a := rr
  obtain ⟨its, rv, pl, hz⟩ := I1.list hq
  refine call_reversed_list pl.isList (args_nil ?_)
  have kp0 : ∀ b o, s1.heap.get? b = some o → (s1.heap.push (revObj a ((its.toArray.size : Int) - 1))).get? b = some o := fun b o z => Heap.get?_push_of_some _ z
  have I2 : Inv X pins σ H1 { s1 with heap := s1.heap.push (revObj a ((its.toArray.size : Int) - 1)) } := I1.kept (t' := s1.toks) kp0
  obtain ⟨f0, f1, _, f3, f4, f5⟩ := I1.fpOk (H' := H1) (b := s1.heap.objs.size) (Nat.le_refl _) (I1.hok.fresh (Nat.le_refl _))
  have hl := pl.isList
  obtain ⟨ol, hol, _⟩ := id hl
  have ne : a ≠ s1.heap.objs.size := Nat.ne_of_lt (Heap.lt_size hol)
  have fits : its.toArray.size ≤ sizeLine := by rw [List.size_toArray, ← rv.length]; exact hz
  refine rv_call (s := { s1 with heap := s1.heap.push (revObj a ((its.toArray.size : Int) - 1)) }) (I1.ok.hd hc) ⟨_, Heap.get?_push_size _ rfl, rfl, rfl⟩ (hl.push _) ne fits fun hp tk ac c1 kp at' hi => ?_
  have I3 := I2.turnedNew (t' := tk) (ch := [s1.heap.objs.size]) (ob := .lst xs.reverse) (fun b o nb z => kp b o (fun y => nb (by simp [y])) z) (fun b hb => by
    rw [List.mem_singleton.mp hb]
    exact ⟨f0, f1, by assumption, f3, f4, f5⟩) (Nat.le_refl _) (show ObjOk X.prog X.w _ hp _ (.lst xs.reverse) from ⟨by rw [List.length_reverse]; exact hz, ac.toList, c1, RT.vals_rev rv hi, by rw [Array.toArray_toList]; exact at'⟩)
  exact ⟨.ref _, _, I3, rfl, q _ (I2.hok.fresh (Nat.le_refl _))⟩
def dLstRev (da : DT nf) : DT nf := fun env Q => da env fun x env1 => ∃ xs, x = .lst xs ∧ Q (.lst xs.reverse) env1
theorem rels_rev {H : Hp} : ∀ {vs : List V} {ds : List D}, Rels K nf H vs ds → Rels K nf H vs.reverse ds.reverse
  | _, _, .nil => .nil
  | _, _, .cons h r => by
    rw [List.reverse_cons, List.reverse_cons]
    exact (rels_rev r).append (.cons h .nil)
theorem de_lstRev {e : Expr} {da : DT nf} {p p2 pos pos2 : Pos} (hc : X.calm = true) (hg : Gl X "list") (hm : X.mg "list" = none) (hg2 : Gl X "reversed") (hm2 : X.mg "reversed" = none) (he : DE X nf e da) (hs : starEach [e] X.env = (false, eval e X.env) :: starEach [] X.env := by rfl)
    (hs2 : starEach [.Call (.Name "reversed" p2) [e] [] pos2] X.env = (false, eval (.Call (.Name "reversed" p2) [e] [] pos2) X.env) :: starEach [] X.env := by rfl) : DE X nf (.Call (.Name "list" p) [.Call (.Name "reversed" p2) [e] [] pos2] [] pos) (dLstRev da) :=
  pe_imp (pe_fz (pe_lstRev hc hg hm hg2 hm2 he hs hs2)) fun σ H Q ⟨env, fp, Qd, R, h, k⟩ => lift_run R h fun v H1 x env1 fp1 r1 R1 c1 ⟨xs, ex, q⟩ => by
    subst ex
    cases r1 with
    | @lst a vs _ hl rr =>
      refine ⟨a, vs, rfl, hl.sq, fun p hp => ⟨p, _, rfl, upd_same, trivial, fun ob => ?_⟩⟩
      have x : Xt H1 (upd (upd H1 p (.lst vs.reverse)) p (.frz ob (.lst vs.reverse))) := xt_fz (Xt.new hp) hp
      exact k _ _ _ env1 fp1 (.lst ⟨ob, upd_same⟩ ((rels_rev rr).mono x.stp)) (R1.ext x) (c1.trans x.ch) q
/-- tuple(reversed(x)), x a list -/
def dTupRev (da : DT nf) : DT nf := fun env Q => da env fun x env1 => ∃ xs, x = .lst xs ∧ Q (.tup xs.reverse) env1
theorem de_tupRev {e : Expr} {da : DT nf} {p p2 pos pos2 : Pos} (hc : X.calm = true) (hg : Gl X "tuple") (hm : X.mg "tuple" = none) (hg2 : Gl X "reversed") (hm2 : X.mg "reversed" = none) (he : DE X nf e da) (hs : starEach [e] X.env = (false, eval e X.env) :: starEach [] X.env := by rfl)
    (hs2 : starEach [.Call (.Name "reversed" p2) [e] [] pos2] X.env = (false, eval (.Call (.Name "reversed" p2) [e] [] pos2) X.env) :: starEach [] X.env := by rfl) : DE X nf (.Call (.Name "tuple" p) [.Call (.Name "reversed" p2) [e] [] pos2] [] pos) (dTupRev da) :=
  pe_imp (RT.pe_tupRev hc hg hm hg2 hm2 he hs hs2) fun σ H Q ⟨env, fp, Qd, R, h, k⟩ => lift_run R h fun v H1 x env1 fp1 r1 R1 c1 ⟨xs, ex, q⟩ => by
    subst ex
    cases r1 with
    | @lst a vs _ hl rr =>
      refine ⟨a, vs, rfl, hl.sq, fun p hp => ?_⟩
      have x : Xt H1 (upd H1 p (.tup vs.reverse)) := Xt.new hp
      exact k _ _ _ env1 fp1 (.tup (.inl (.inl upd_same)) ((rels_rev rr).mono x.stp)) (R1.ext x) (c1.trans x.ch) q
end
section
open PySem L2
variable [Anch] {X : Cx} {nf : Addr → Nat} {K : PySem.W.Frag} {CX : CXT} {k : Nat} {f C : Addr} {fd : FuncData} {ps : List Str} {sp : Sp} {E : XK} {a b : Expr} {pos : Pos} {da db : DT nf} {S : SpD nf}
/-! ### own ==, the other side of any kind -/
structure EqT (K : PySem.W.Frag) (C f : Addr) : Prop where
  hs : PySem.W.findIn K (.ref C) "__eq__" = some (some (.ref f))
  hf : PySem.W.isFn K (.ref f) = true
theorem op_eqOwnT (F : FnOk X.prog X.w X.K X.mg X.base CX k f fd ps sp) (hr : Room k X.A) (hb : Binds X.K fd ps []) (hx : Passes CX X E) (o : EqT X.K C f) :
    OpR X (compareOp .Eq) (fun x y H Q => (∃ a dx fs t, x = .ref a ∧ H a = some (.ins C dx fs) ∧ TyX X.K H y t ∧ PySem.W.notFirst X.K C t = true) ∧ sp [x, y] H Q E) := by
  intro pins s σ H x y v u Q I rx ry ⟨⟨p, dx, fs, t, ex, ha, ty, nf1⟩, h⟩
  subst ex
  cases rx
  obtain ⟨m, hF⟩ := I.fr
  obtain ⟨mA, O, _⟩ := ins_get I.hok ha
  obtain ⟨od, J, _⟩ := O.look
  obtain ⟨P, kx, hP, _⟩ := L2.kit_of I ry ty
  unfold compareOp
  exact PySem.W.cmp_K hr.units0 hF I.mod.kin J (kx.ty _ _ I.kIn hP) nf1 o.hs o.hf (wpAny_mono (run_fn F hr hb .nil hx I (.cons (rv_ref _) (.cons ry .nil)) h) (fun _ _ q => cmpBack_of q) fun _ _ z => z)
/-- what may stand at the right of an own == -/
def eqAny (K : PySem.W.Frag) (C : Addr) : D → D → Prop := fun x y => isO C x ∧ (∀ C' fs, y = .obj C' fs → IsiC K C') ∧ ∃ t, tyD y = some t ∧ PySem.W.notFirst K C t = true
theorem eqAny_r {H : Hp} {v w : V} {x y : D} {Q : VK} (r1 : Rel K nf H v x) (r2 : Rel K nf H w y) (p : eqAny K C x y) (h : toSp K nf 2 S [v, w] H Q E) :
    (∃ a dx fs t, v = .ref a ∧ H a = some (.ins C dx fs) ∧ TyX K H w t ∧ PySem.W.notFirst K C t = true) ∧ toSp K nf 2 S [v, w] H Q E := by
  obtain ⟨⟨fs, e1⟩, hC, t, et, nf1⟩ := p
  subst e1
  have ty := ty_of hC r2 et
  cases r1 with
  | obj h1 _ _ _ => exact ⟨⟨_, _, _, t, rfl, h1, ty, nf1⟩, h⟩
theorem de_eqOwnT (F : FnOk X.prog X.w X.K X.mg X.base CX k f fd ps (toSp X.K nf 2 S)) (hr : Room k X.A) (hb : Binds X.K fd ps []) (hx : Passes CX X E) (o : EqT X.K C f) (ha : DE X nf a da) (hb' : DE X nf b db) :
    DE X nf (.Compare a [.Eq] [b] pos) (dOwnOp false (eqAny X.K C) S da db) := pe_imp (pe_cmpR (op_eqOwnT F hr hb hx o) ha hb' (nomark _)) (lift_own fun H v w x y Q r1 r2 p h => eqAny_r r1 r2 p h)
theorem dc_eqOwnT (F : FnOk X.prog X.w X.K X.mg X.base CX k f fd ps (toSp X.K nf 2 S)) (hr : Room k X.A) (hb : Binds X.K fd ps []) (hx : Passes CX X E) (o : EqT X.K C f) (ha : DE X nf a da) (hb' : DE X nf b db) :
    DC X nf (.Compare a [.Eq] [b] pos) (dBv (dOwnOp false (eqAny X.K C) S da db)) := pt_imp (pt_cmpB (op_eqOwnT F hr hb hx o) ha hb' (nomark _)) (lift_B2 (lift_own fun H v w x y Q r1 r2 p h => eqAny_r r1 r2 p h))
/-! ### own not in -/
theorem op_ninOwn (F : FnOk X.prog X.w X.K X.mg X.base CX k f fd ps sp) (hr : Room k X.A) (hb : Binds X.K fd ps []) (hx : Passes CX X E) (o : InC X.K C f) :
    OpR X (compareOp .NotIn) (fun x y H Q => (∃ a dx fs, y = .ref a ∧ H a = some (.ins C dx fs)) ∧ sp [y, x] H (fun v H' => ∃ c, v = .bl c ∧ Q (.bl (!c)) H') E) := by
  intro pins s σ H x y v u Q I rx ry ⟨⟨p, dx, fs, ey, hp⟩, h⟩
  subst ey
  cases ry
  obtain ⟨m, hF⟩ := I.fr
  obtain ⟨mA, O, _⟩ := ins_get I.hok hp
  obtain ⟨od, J, _⟩ := O.look
  refine PySem.W.notIn_K hF I.mod.kin J o.hs o.hf (wpAny_mono (run_fn F hr hb .nil hx I (.cons (rv_ref _) (.cons rx .nil)) h) (fun z s' ⟨w, H', I', r', c, ew, q⟩ => ?_) fun _ _ e => e)
  subst ew
  cases r'
  exact wpAny_truthy_bool ⟨.bl (!c), H', I', rfl, q⟩
def dNinOwn (C : Addr) (S : SpD nf) (da db : DT nf) : DT nf := fun env Q => da env fun x env1 => db env1 fun y env2 => isO C y ∧ S [.fz y, .fz x] fun d _ => ∃ c, d = .bl c ∧ Q (.bl (!c)) env2
theorem lift_ninOwn (σ : St) (H : Hp) (Q : VK) (h : lift K nf (dNinOwn C S da db) σ H Q) : tOp (fun x y H Q => (∃ a dx fs, y = .ref a ∧ H a = some (.ins C dx fs)) ∧ toSp K nf 2 S [y, x] H (fun v H' => ∃ c, v = .bl c ∧ Q (.bl (!c)) H') E) (lift K nf da) (lift K nf db) σ H Q := by
  obtain ⟨env, fp, Qd, R, h, k⟩ := h
  refine lift_run R h fun v H1 x env1 fp1 r1 R1 c1 h1 => lift_run R1 h1 fun w H2 y env2 fp2 r2 R2 c2 ⟨⟨fs, ey⟩, hS⟩ => ?_
  subst ey
  have r1' := r1.mono (c2.stp R1)
  have r2' := r2
  cases r2 with
  | obj h0 n0 l0 f0 =>
    refine ⟨⟨_, _, _, rfl, h0⟩, ?_⟩
    exact sp_run (ads := [.v (.obj C fs), .v x]) (Qd := fun d env => ∃ c, d = .bl c ∧ Qd (.bl (!c)) env) R2 (.val r2' (.val r1' .nil)) rfl List.nodup_nil (fun i m => by cases m) (by simp only [pb2]; exact hS) fun u H3 d env3 fp3 r3 R3 c3 ⟨c, ec, q⟩ => by
      subst ec
      exact ⟨c, rel_bl r3, k _ H3 _ env3 fp3 (.bl _) R3 ((c1.trans c2).trans c3) q⟩
theorem de_ninOwn (F : FnOk X.prog X.w X.K X.mg X.base CX k f fd ps (toSp X.K nf 2 S)) (hr : Room k X.A) (hb : Binds X.K fd ps []) (hx : Passes CX X E) (o : InC X.K C f) (ha : DE X nf a da) (hb' : DE X nf b db) (hm : behindInMarks .NotIn b = false := by rfl) :
    DE X nf (.Compare a [.NotIn] [b] pos) (dNinOwn C S da db) := pe_imp (pe_cmpR (op_ninOwn F hr hb hx o) ha hb' hm) lift_ninOwn
theorem dc_ninOwn (F : FnOk X.prog X.w X.K X.mg X.base CX k f fd ps (toSp X.K nf 2 S)) (hr : Room k X.A) (hb : Binds X.K fd ps []) (hx : Passes CX X E) (o : InC X.K C f) (ha : DE X nf a da) (hb' : DE X nf b db) (hm : behindInMarks .NotIn b = false := by rfl) :
    DC X nf (.Compare a [.NotIn] [b] pos) (dBv (dNinOwn C S da db)) := pt_imp (pt_cmpB (op_ninOwn F hr hb hx o) ha hb' hm) (lift_B2 lift_ninOwn)
end
/-! ### steps -/
section
open PySem L2
variable {nf : Addr → Nat} {env : EV nf} {da db : DT nf} {Q : D → EV nf → Prop} {C : Addr} {S : SpD nf} {x : D}
def LstRevK (Q : D → EV nf → Prop) : D → EV nf → Prop := fun x env1 => ∃ xs, x = .lst xs ∧ Q (.lst xs.reverse) env1
theorem dLstRev_s (h : da env (LstRevK Q)) : dLstRev da env Q := h
theorem lstRevK_s {xs : List D} (h : Q (.lst xs.reverse) env) : LstRevK Q (.lst xs) env := ⟨xs, rfl, h⟩
def TupRevK (Q : D → EV nf → Prop) : D → EV nf → Prop := fun x env1 => ∃ xs, x = .lst xs ∧ Q (.tup xs.reverse) env1
theorem dTupRev_s (h : da env (TupRevK Q)) : dTupRev da env Q := h
theorem tupRevK_s {xs : List D} (h : Q (.tup xs.reverse) env) : TupRevK Q (.lst xs) env := ⟨xs, rfl, h⟩
def InOwnK (C : Addr) (S : SpD nf) (neg : Bool) (x : D) (Q : D → EV nf → Prop) : D → EV nf → Prop := fun y env2 => isO C y ∧ S [.fz y, .fz x] fun d _ => ∃ c, d = .bl c ∧ Q (.bl (if neg then !c else c)) env2
theorem dInOwn_s (h : da env fun x env1 => db env1 (InOwnK C S false x Q)) : dInOwn C S da db env Q := h
theorem dNinOwn_s (h : da env fun x env1 => db env1 (InOwnK C S true x Q)) : dNinOwn C S da db env Q := h
theorem inOwnK_s {fs : List (Str × D)} {neg : Bool} (h : S [.fz (.obj C fs), .fz x] fun d _ => ∃ c, d = .bl c ∧ Q (.bl (if neg then !c else c)) env) : InOwnK C S neg x Q (.obj C fs) env := ⟨⟨fs, rfl⟩, h⟩
end
end DL

/-! D-layer: f(g(..), ..), g gives back a thing of one's own, which f gets and nobody keeps -/
namespace DL
open PySem L2
section
variable [Anch] {X : Cx} {nf : Addr → Nat} {K : PySem.W.Frag}
/-- the same arguments, one slot further down -/
def shD : AD → AD
  | .v d => .v d
  | .o i => .o (i + 1)
theorem sh_res {s : SD nf} {env : EV nf} (ad : AD) : resolve (s :: env) (shD ad) = resolve env ad := by cases ad <;> rfl
theorem sh_map {s : SD nf} {env : EV nf} (ads : List AD) : (ads.map shD).map (resolve (s :: env)) = ads.map (resolve env) := by
  rw [List.map_map]
  exact List.map_congr_left fun ad _ => sh_res ad
theorem sh_slots : ∀ ads : List AD, slotsOf (ads.map shD) = (slotsOf ads).map (· + 1)
  | [] => rfl
  | .v d :: ads => by simpa [slotsOf, shD] using sh_slots ads
  | .o i :: ads => by simpa [slotsOf, shD] using sh_slots ads
theorem sh_put {s : SD nf} : ∀ {env : EV nf} (ads : List AD) (as : List (SD nf)), putBack (s :: env) (ads.map shD) as = s :: putBack env ads as
  | env, [], as => by cases as <;> rfl
  | env, _ :: _, [] => rfl
  | env, .v d :: ads, t :: as => by simpa [putBack, shD] using sh_put ads as
  | env, .o i :: ads, t :: as => by simpa [putBack, shD] using sh_put (env := env.set i t) ads as
theorem sh_args {H : Hp} {σ : St} {o : Option V} : ∀ {vs : List V} {ads : List AD}, ArgsM K nf H σ vs ads → ArgsM K nf H (o :: σ) vs (ads.map shD)
  | _, _, .nil => .nil
  | _, _, .val h r => .val h (sh_args r)
  | _, _, .slot h r => .slot (by simpa using h) (sh_args r)
def dCallT (n : Nat) (S : SpD nf) (n0 : Nat) (S0 : SpO nf) (r0 r : DM nf) : DT nf := fun env Q => r0 env fun ads0 env0 => ads0.length = n0 ∧ (slotsOf ads0).Nodup ∧ (∀ i ∈ slotsOf ads0, i < env0.length) ∧
  S0 (ads0.map (resolve env0)) fun s as0 => isSet s ∧ r (putBack env0 ads0 as0) fun ads env1 => ads.length + 1 = n ∧ (slotsOf ads).Nodup ∧ (∀ i ∈ slotsOf ads, i < env1.length) ∧
    S (s :: ads.map (resolve env1)) fun d as' => ∃ s' rest, as' = s' :: rest ∧ Q d (putBack env1 ads rest)
theorem lift_callT {S : SpD nf} {S0 : SpO nf} {n n0 : Nat} {r0 r : DM nf} {E E0 : XK} (σ : St) (H : Hp) (Q : VK) (h : lift K nf (dCallT n S n0 S0 r0 r) σ H Q) :
    tCall (toSp K nf n S) [] E (tCons (tCall (toSpO K nf n0 S0) [] E0 (liftM K nf r0)) (liftM K nf r)) σ H Q := by
  obtain ⟨env, fp, Qd, R, h, k⟩ := h
  refine ⟨env, fp, _, R, h, fun vs0 H1 ads0 env0 fp0 M0 R0 c0 ⟨hl0, nd0, hin0, s0⟩ => ?_⟩
  obtain ⟨fpa, RA, put⟩ := R0.args M0 nd0 hin0
  rw [List.append_nil]
  refine ⟨by rw [M0.len, hl0], _, fpa, _, by rw [List.length_map, hl0], RA, s0, fun v H2 s as0 fi fp1 hl1 rs R1 dis1 c1 ⟨hset, q1⟩ => ?_⟩
  have c1' : Ch fpa H1 fp1 H2 := c1.less fun a m => List.mem_append_right _ m
  obtain ⟨fp2, R2, c2, sub2, suba⟩ := put H2 as0 fp1 (by rw [hl1, hl0]) R1 c1'
  have dis2 : ∀ a ∈ fi, a ∉ fp2 := fun a m z => by
    rcases sub2 a z with q | ⟨q1, q2⟩
    · exact dis1 a m q
    · rcases c1.sub a (List.mem_append_left _ m) with y | y
      · exact q2 y
      · obtain ⟨u, e, _⟩ := R0.trk a q1
        rw [y] at e; cases e
  refine ⟨_, fp2, _, R2, q1, fun vs H3 ads env3 fp3 M3 R3 c3 ⟨hl3, nd3, hin3, s3⟩ => ?_⟩
  have st : ∀ a ∈ fi, H3 a = H2 a := fun a m => by
    obtain ⟨u, e, _⟩ := rs.trk a m
    rw [e]
    exact c3.keep a u e (dis2 a m)
  have rs3 : SlotR K nf H3 (some v) fi s := rs.frame st (c3.stp R2)
  have dis3 : ∀ a ∈ fi, a ∉ fp3 := fun a m z => by
    rcases c3.sub a z with y | y
    · exact dis2 a m y
    · obtain ⟨u, e, _⟩ := rs.trk a m
      rw [y] at e; cases e
  have RX : EnvL K nf H3 (some v :: σ) (s :: env3) (fi ++ fp3) := .cons rs3 R3.1 dis3
  have ndx : (slotsOf (AD.o 0 :: ads.map shD)).Nodup := by
    show (0 :: slotsOf (ads.map shD)).Nodup
    rw [sh_slots, List.nodup_cons]
    refine ⟨fun m => ?_, List.Pairwise.map _ (fun a b hab e => hab (by omega)) nd3⟩
    obtain ⟨z, _, e⟩ := List.mem_map.mp m
    omega
  have hinx : ∀ i ∈ slotsOf (AD.o 0 :: ads.map shD), i < (s :: env3).length := fun i m => by
    have m' : i ∈ 0 :: slotsOf (ads.map shD) := m
    rw [sh_slots] at m'
    rcases List.mem_cons.mp m' with e | m'
    · subst e; simp
    · obtain ⟨z, hz, e⟩ := List.mem_map.mp m'
      have := hin3 z hz
      rw [List.length_cons]; omega
  obtain ⟨fpb, RB, putb⟩ := RX.args (vs := v :: vs) (ads := .o 0 :: ads.map shD) (.slot rfl (sh_args M3)) ndx hinx
  have eB : (AD.o 0 :: ads.map shD).map (resolve (s :: env3)) = s :: ads.map (resolve env3) := by
    rw [List.map_cons, sh_map]
    rfl
  rw [eB] at RB
  show toSp K nf n S ((v :: vs) ++ []) H3 Q E
  rw [List.append_nil]
  refine ⟨by rw [List.length_cons, M3.len, hl3], _, fpb, _, by rw [List.length_cons, List.length_map, hl3], RB, s3, fun w H4 d as' fp4 hl4 rd R4 c4 ⟨s', rest, eas, q4⟩ => ?_⟩
  subst eas
  obtain ⟨fp5, R5, c5, _, _⟩ := putb H4 (s' :: rest) fp4 (by rw [hl4, List.length_cons, List.length_map, hl3]) R4 c4
  have e5 : putBack (s :: env3) (AD.o 0 :: ads.map shD) (s' :: rest) = s' :: putBack env3 ads rest := by
    show putBack ((s :: env3).set 0 s') (ads.map shD) rest = _
    exact sh_put ads rest
  rw [e5] at R5
  cases R5 with
  | @cons _ _ _ _ g1 g2 hs hr hd =>
    have fi1 : ∀ a ∈ fi, a ∈ fp0 ∨ H1 a = none := fun a m => (c1.sub a (List.mem_append_left _ m)).imp (suba a) id
    have CC : Ch fp0 H1 g2 H4 := by
      refine ⟨fun a u e na => ?_, fun a m => ?_, fun a e => c2.there a (c3.there a (c5.there a e))⟩
      · have e2 : H2 a = some u := c2.keep a u e na
        have n2 : a ∉ fp2 := fun z => by
          rcases c2.sub a z with y | y
          · exact na y
          · rw [y] at e; cases e
        have e3 : H3 a = some u := c3.keep a u e2 n2
        refine c5.keep a u e3 fun z => ?_
        rcases List.mem_append.mp z with z | z
        · rcases fi1 a z with y | y
          · exact na y
          · rw [y] at e; cases e
        · rcases c3.sub a z with y | y
          · exact n2 y
          · rw [y] at e2; cases e2
      · rcases c5.sub a (List.mem_append_right _ m) with z | z
        · rcases List.mem_append.mp z with z | z
          · exact fi1 a z
          · rcases c3.sub a z with y | y
            · exact c2.sub a y
            · exact .inr (c2.there a y)
        · exact .inr (c2.there a (c3.there a z))
    exact k w H4 d _ g2 rd ⟨hr, Anch.up R0.2 CC⟩ (c0.trans CC) q4
section
variable {CX CX2 : CXT} {k k2 n n0 : Nat} {f g : Addr} {fd fd2 : FuncData} {ps ps2 : List Str} {S : SpD nf} {S0 : SpO nf} {E E0 : XK} {x y : Str} {p p2 pos pos2 : Pos} {e : Expr} {es es0 : List Expr} {r r0 : DM nf}
theorem de_callT (F : FnOk X.prog X.w X.K X.mg X.base CX k f fd ps (toSp X.K nf n S)) (hr : Room k X.A) (hg : Gl X x) (hm : X.mg x = some (.ref f)) (hk : PySem.W.keepIn X.K (.ref f) = true) (hb : Binds X.K fd ps []) (hx : Passes CX X E)
    (G : FnOk X.prog X.w X.K X.mg X.base CX2 k2 g fd2 ps2 (toSpO X.K nf n0 S0)) (hr2 : Room k2 X.A) (hg2 : Gl X y) (hm2 : X.mg y = some (.ref g)) (hk2 : PySem.W.keepIn X.K (.ref g) = true) (hb2 : Binds X.K fd2 ps2 []) (hx2 : Passes CX2 X E0)
    (ha0 : DAM X nf (e :: es0) r0) (ha : DAM X nf es r) (hdb : (x == ("__debug__" : Str)) = false := by decide) (hdb2 : (y == ("__debug__" : Str)) = false := by decide)
    (he0 : starEach (e :: es0) X.env = (false, eval e X.env) :: starEach es0 X.env := by rfl) (hpl0 : (backTo pos2 (starEach es0 X.env)).any (·.1) = false := by rfl)
    (he : starEach (.Call (.Name y p2) (e :: es0) [] pos2 :: es) X.env = (false, eval (.Call (.Name y p2) (e :: es0) [] pos2) X.env) :: starEach es X.env := by rfl) (hpl : (backTo pos (starEach es X.env)).any (·.1) = false := by rfl) :
    DE X nf (.Call (.Name x p) (.Call (.Name y p2) (e :: es0) [] pos2 :: es) [] pos) (dCallT n S n0 S0 r0 r) :=
  pe_imp (pe_call F hr hg hm hk hb .nil hx (pa_cons (pe_call G hr2 hg2 hm2 hk2 hb2 .nil hx2 ha0 hdb2 he0 hpl0) ha he) hdb he hpl) lift_callT
end
end
/-! ### steps -/
section
variable {nf : Addr → Nat} {env : EV nf} {Q : D → EV nf → Prop} {n n0 : Nat} {S : SpD nf} {S0 : SpO nf} {r0 r : DM nf} {as : List (SD nf)}
def CallT1 (n : Nat) (S : SpD nf) (n0 : Nat) (S0 : SpO nf) (r : DM nf) (Q : D → EV nf → Prop) : List AD → EV nf → Prop := fun ads0 env0 => ads0.length = n0 ∧ (slotsOf ads0).Nodup ∧ (∀ i ∈ slotsOf ads0, i < env0.length) ∧
  S0 (ads0.map (resolve env0)) fun s as0 => isSet s ∧ r (putBack env0 ads0 as0) fun ads env1 => ads.length + 1 = n ∧ (slotsOf ads).Nodup ∧ (∀ i ∈ slotsOf ads, i < env1.length) ∧
    S (s :: ads.map (resolve env1)) fun d as' => ∃ s' rest, as' = s' :: rest ∧ Q d (putBack env1 ads rest)
def CallT2 (n : Nat) (S : SpD nf) (s : SD nf) (Q : D → EV nf → Prop) : List AD → EV nf → Prop := fun ads env1 => ads.length + 1 = n ∧ (slotsOf ads).Nodup ∧ (∀ i ∈ slotsOf ads, i < env1.length) ∧ S (s :: ads.map (resolve env1)) fun d as' => ∃ s' rest, as' = s' :: rest ∧ Q d (putBack env1 ads rest)
def CallT3 (env : EV nf) (ads : List AD) (Q : D → EV nf → Prop) : D → List (SD nf) → Prop := fun d as' => ∃ s' rest, as' = s' :: rest ∧ Q d (putBack env ads rest)
def CallT4 (n : Nat) (S : SpD nf) (env0 : EV nf) (ads0 : List AD) (r : DM nf) (Q : D → EV nf → Prop) : SD nf → List (SD nf) → Prop := fun s as0 => isSet s ∧ r (putBack env0 ads0 as0) (CallT2 n S s Q)
theorem dCallT_s (h : r0 env (CallT1 n S n0 S0 r Q)) : dCallT n S n0 S0 r0 r env Q := h
theorem callT1_s {ads0 : List AD} (h1 : ads0.length = n0) (h2 : ndB (slotsOf ads0) = true) (h3 : (slotsOf ads0).all (fun i => Nat.blt i env.length) = true) (e2 : ads0.map (resolve env) = as) (h : S0 as (CallT4 n S env ads0 r Q)) : CallT1 n S n0 S0 r Q ads0 env := by
  subst e2
  exact ⟨h1, nd_of h2, ofAll h3, h⟩
theorem callT4_s {ads0 : List AD} {v : V} {A : OA nf} {as0 : List (SD nf)} {env' : EV nf} (e : putBack env ads0 as0 = env') (h : r env' (CallT2 n S (.ow v A) Q)) : CallT4 n S env ads0 r Q (.ow v A) as0 := by
  subst e
  exact ⟨trivial, h⟩
theorem callT2_s {ads : List AD} {s : SD nf} (h1 : ads.length + 1 = n) (h2 : ndB (slotsOf ads) = true) (h3 : (slotsOf ads).all (fun i => Nat.blt i env.length) = true) (e2 : ads.map (resolve env) = as) (h : S (s :: as) (CallT3 env ads Q)) : CallT2 n S s Q ads env := by
  subst e2
  exact ⟨h1, nd_of h2, ofAll h3, h⟩
theorem callT3_s {ads : List AD} {s' : SD nf} {rest : List (SD nf)} {env' : EV nf} {d : D} (e : putBack env ads rest = env') (h : Q d env') : CallT3 env ads Q d (s' :: rest) := by
  subst e
  exact ⟨s', rest, rfl, h⟩
end
end DL

/-! D-layer: a list that may be owned, walked and made a set; clear; bool by __bool__; *args of a classmethod -/
namespace DL
section
open PySem L2
variable [Anch] {X : Cx} {nf : Addr → Nat} {K : PySem.W.Frag}
/-- for over the owned list of slot i, which stands at each turn -/
def dForO (K : PySem.W.Frag) (i : Nat) (v : V) (ys : List D) (g : DG nf) (b : DTS nf) : List D → DTS nf
  | [], De, env => env[i]? = some (.ow v (lstA K nf ys)) ∧ De.nx env
  | x :: xs, De, env => env[i]? = some (.ow v (lstA K nf ys)) ∧ g x env fun env1 => b { De with nx := dForO K i v ys g b xs De, ct := dForO K i v ys g b xs De, bk := De.nx } env1
theorem dForO_at {i : Nat} {v : V} {ys : List D} {g : DG nf} {b : DTS nf} : ∀ {xs : List D} {De : EndsD nf} {env : EV nf}, dForO K i v ys g b xs De env → env[i]? = some (.ow v (lstA K nf ys))
  | [], _, _, h => h.1
  | _ :: _, _, _, h => h.1
def sForQ (K : PySem.W.Frag) (i : Nat) (g : DG nf) (b : DTS nf) : DTS nf := fun De env => (∃ d xs, env[i]? = some (.fz d) ∧ (d = .lst xs ∨ d = .tup xs) ∧ dFor g b xs De env) ∨ ∃ v xs, env[i]? = some (.ow v (lstA K nf xs)) ∧ dForO K i v xs g b xs De env
theorem ds_forQ {tg l : Expr} {body : List Stmt} {pos : Pos} {i : Nat} {js : List Nat} {g : DG nf} {b : DTS nf} (hp : PassesOwn (model X.prog X.w) X.A X.env X.xe) (hc : X.calm = true) (hl : PE X l (tVar i)) (hg : DGo X nf tg js g) (hb : DSs X nf body b)
    (hs : ∀ x, foldedSetIterable l X.env x = pure x := by intro _; rfl) : DS X nf (.For tg l body [] pos) (sForQ X.K i g b) := ps_imp (ps_for hp hc (pi_either hl) hg hb hs) fun E σ H ⟨env, fp, De, R, q, br⟩ => by
  have go : ∀ (J : It) (ds : List D), WalkD X.K nf J H ds → dFor g b ds De env → ∃ W : Nat → Nat → St → Hp → Prop, (∃ m, W 0 m σ H) ∧ ∀ i m σ H, W i m σ H →
      (J.stop i H ∧ E.nx σ H) ∨ (J.go i H ∧ ∃ N : St → Hp → Prop, (∀ σ' H', N σ' H' → ∃ m', m' < m ∧ W (i + 1) m' σ' H') ∧ ∀ x H', J.yld i H x H' → liftG X.K nf js g x σ H' fun σ2 H2 => liftS X.K nf b { E with nx := N, ct := N, bk := E.nx } σ2 H2) := by
    rintro J ds ⟨G, Y, w, hG, hY⟩ q1
    refine for_it w (fun i σ' H' => ∃ env' fp', EnvR X.K nf H' σ' env' fp' ∧ Ch fp H fp' H' ∧ dFor g b (ds.drop i) De env') ⟨env, fp, R, Ch.refl, q1⟩ (fun i σ' H' _ ⟨env', fp', R', c', _⟩ => hG H' (c'.stp R)) (fun i x σ' H' H2 hi ⟨env', fp', R', c', q'⟩ y => ?_) fun σ' H' ⟨env', fp', R', c', q'⟩ => ?_
    · obtain ⟨xt, d, ed, r⟩ := hY i H' x H2 hi (c'.stp R) y
      rw [drop_cons ed] at q'
      refine ⟨d, env', fp', _, r, R'.ext xt, q', fun σ2 env2 fp2 _ R2 c2 q2 => ?_⟩
      have c3 := (c'.trans xt.ch).trans c2
      exact ⟨env2, fp2, _, R2, q2, ⟨fun σ3 H3 env3 fp3 R3 cc q3 => ⟨env3, fp3, R3, c3.trans cc, q3⟩, fun v d σ3 H3 env3 fp3 r3 R3 cc q3 => br.rt v d σ3 H3 env3 fp3 r3 R3 (c3.trans cc) q3, fun σ3 H3 env3 fp3 R3 cc q3 => br.nx σ3 H3 env3 fp3 R3 (c3.trans cc) q3, fun σ3 H3 env3 fp3 R3 cc q3 => ⟨env3, fp3, R3, c3.trans cc, q3⟩, fun v A σ3 H3 env3 fp3 fi i3 R3 n3 cc q3 => br.ro v A σ3 H3 env3 fp3 fi i3 R3 n3 (c3.trans cc) q3⟩⟩
    · rw [List.drop_length] at q'
      exact br.nx σ' H' env' fp' R' c' q'
  rcases q with ⟨d, xs, ei, ed, q⟩ | ⟨v, xs, ei, q⟩
  · obtain ⟨o, fi, e1, ⟨_, u, eo, r⟩, _⟩ := R.at ei
    subst eo
    refine ⟨u, e1, ?_⟩
    rcases ed with rfl | rfl
    · cases r with
      | @lst a vs _ hl rr =>
        refine .inl ⟨a, rfl, ⟨vs, hl.sq⟩, go _ xs ⟨_, _, rr.length ▸ walk_list (xs := vs), fun H s => (hl.mono s).sq, fun i H x H2 hi s ⟨e2, y⟩ => ?_⟩ q⟩
        subst e2
        obtain ⟨d, e3, r3⟩ := rr.getV y
        exact ⟨Xt.refl, d, e3, r3.mono s⟩
    · cases r with
      | @tup a vs _ hl rr =>
        refine .inr ⟨a, rfl, ⟨vs, hl⟩, go _ xs ⟨_, _, rr.length ▸ walk_tup (xs := vs), fun H s => sqT_mono s hl, fun i H x H2 hi s ⟨e2, y⟩ => ?_⟩ q⟩
        subst e2
        obtain ⟨d, e3, r3⟩ := rr.getV y
        exact ⟨Xt.refl, d, e3, r3.mono s⟩
  · obtain ⟨p, vs, ev, e1, hp', rr, _⟩ := R.lstAt ei
    subst ev
    refine ⟨.ref p, e1, .inl ⟨p, rfl, ⟨vs, SqL.of hp'⟩, ?_⟩⟩
    have w : Walk (Itl X.K p) xs.length (fun H => ∃ vs, SqL X.K H p vs ∧ Rels X.K nf H vs xs) (fun i H x H2 => H2 = H ∧ ∃ d, xs[i]? = some d ∧ Rel X.K nf H x d) :=
      ⟨fun i _ hi ⟨vs, q, r⟩ => ⟨vs, vs[i]'(by rw [r.length]; exact hi), q, by simp⟩, fun _ ⟨vs, q, r⟩ => ⟨vs, q, by rw [r.length]; exact Nat.le_refl _⟩, fun i _ x _ _ ⟨vs, q, r⟩ y => ⟨y.1, r.getV (y.2 vs q)⟩⟩
    refine for_it w (fun j σ' H' => ∃ env' fp', EnvR X.K nf H' σ' env' fp' ∧ Ch fp H fp' H' ∧ dForO X.K i (.ref p) xs g b (xs.drop j) De env') ⟨env, fp, R, Ch.refl, q⟩ (fun j σ' H' _ ⟨env', fp', R', c', q'⟩ => ?_) (fun j x σ' H' H2 hi ⟨env', fp', R', c', q'⟩ y => ?_) fun σ' H' ⟨env', fp', R', c', q'⟩ => ?_
    · obtain ⟨p', vs', ev', _, hp2, rr', _⟩ := R'.lstAt (dForO_at q')
      cases ev'
      exact ⟨vs', SqL.of hp2, rr'⟩
    · obtain ⟨e2, d, ed, r⟩ := y
      subst e2
      rw [drop_cons ed] at q'
      refine ⟨d, env', fp', _, r, R', q'.2, fun σ2 env2 fp2 _ R2 c2 q2 => ?_⟩
      have c3 := c'.trans c2
      exact ⟨env2, fp2, _, R2, q2, ⟨fun σ3 H3 env3 fp3 R3 cc q3 => ⟨env3, fp3, R3, c3.trans cc, q3⟩, fun v d σ3 H3 env3 fp3 r3 R3 cc q3 => br.rt v d σ3 H3 env3 fp3 r3 R3 (c3.trans cc) q3, fun σ3 H3 env3 fp3 R3 cc q3 => br.nx σ3 H3 env3 fp3 R3 (c3.trans cc) q3, fun σ3 H3 env3 fp3 R3 cc q3 => ⟨env3, fp3, R3, c3.trans cc, q3⟩, fun v A σ3 H3 env3 fp3 fi i3 R3 n3 cc q3 => br.ro v A σ3 H3 env3 fp3 fi i3 R3 n3 (c3.trans cc) q3⟩⟩
    · rw [List.drop_length] at q'
      exact br.nx σ' H' env' fp' R' c' q'.2
end
section
open PySem PySem.W PySem.Calls PyProof.Rows
variable {prog : Program} {w : World} {A : Around} {E : Value → Shared → Prop} {s : Shared} {K : Frag} {x C f : Addr} {ox : Obj} {od : Option Obj}
theorem truthB {Q : Bool → Shared → Prop} (X : K.In s.heap) (I : InstAt s.heap x ox C od) (hs : findIn K (.ref C) "__bool__" = some (some (.ref f))) (hf : isFn K (.ref f) = true)
    (h : wpAny (model prog w) A (call (.ref f) [.ref x]) (fun u s' => ∃ b, u = .bool b ∧ Q b s') E s) : wpAny (model prog w) A (truthy (.ref x)) Q E s := by
  unfold truthy
  refine wpAny_bind (m := callSpecial? (.ref x) (Str.ofString "__bool__")) (special_fn X I hs (beq_iff_eq.mp hf) (wpAny_mono h (fun r s' ⟨b, er, q⟩ => ?_) fun _ _ z => z))
  subst er
  exact wpAny_pure q
theorem boolB {Q : Value → Shared → Prop} (X : K.In s.heap) (I : InstAt s.heap x ox C od) (hs : findIn K (.ref C) "__bool__" = some (some (.ref f))) (hf : isFn K (.ref f) = true)
    (h : wpAny (model prog w) A.in1.in1 (call (.ref f) [.ref x]) (fun u s' => ∃ b, u = .bool b ∧ Q (.bool b) s') E s) : wpAny (model prog w) A (call (.type "bool") [.ref x]) Q E s := by
  refine callType_codes (T := "bool") (Bi := Builtin.«object.__init__») (Q₁ := fun r s₁ => ∃ b, r = .bool b ∧ Q r s₁) PySem.F.called_bool (PySem.F.typeCall_bool_1 _) PySem.F.entry_object_init ?_ ?_
  · refine codeAny_of_tree ?_
    show wpAny _ A.in1.in1 (do checkBuiltinCall "bool.__new__" ⟨[.type "bool", .ref x], []⟩; again (.builtin "bool.__new__" ⟨[.type "bool", .ref x], []⟩)) _ _ s
    refine wpAny_bind (wpAny_of_eq (PySem.F.newCall_bool_1 _) (wpAny_pure ⟨plainId_quiet (by decide +kernel) _, codeAny_builtin PySem.F.entry_bool_new ?_⟩))
    rw [Around.under_plainId (by decide +kernel) _]
    have f1 := PySem.F.conv_sub_bool
    obtain ⟨hh, g, d, tk, os⟩ := s
    unfold Builtin.«bool.__new__»
    repeat (first | (with_reducible refine truthB X I hs hf (wpAny_mono h (fun u s' ⟨b, e, q⟩ => ⟨b, e, wpAny_pure ?_⟩) fun _ _ z => z)) | wp_step)
    exact ⟨_, rfl, q⟩
  · rintro obj s₁ ⟨b, rfl, hq⟩
    exact ⟨rfl, PySem.F.args_object_init_2 _ _, object_init_meets PySem.F.called_bool.init.lookup PySem.F.called_bool.made (by decide) prog w A.in1 _ s₁ ⟨rfl, rfl, hq⟩⟩
end
section
open PySem L2
variable [Anch] {X : Cx} {nf : Addr → Nat} {K : PySem.W.Frag} {CX : CXT} {k : Nat} {f C : Addr} {fd : FuncData} {ps : List Str} {sp : Sp} {E : XK} {e : Expr} {p pos : Pos} {da : DT nf} {S : SpD nf} {i : Nat}
structure BoolC (K : PySem.W.Frag) (C f : Addr) : Prop where
  hs : PySem.W.findIn K (.ref C) "__bool__" = some (some (.ref f))
  hf : PySem.W.isFn K (.ref f) = true
def isBV (v : V) : Prop := ∃ b : Bool, v = .bl b
def boolDx (d : D) : Prop := ∃ b : Bool, d = .bl b
theorem call_boolB (F : FnOk X.prog X.w X.K X.mg X.base CX k f fd ps sp) (hr : Room (k + 2) X.A) (hb : Binds X.K fd ps []) (hx : Passes CX X E) (o : BoolC X.K C f) : CallR X (.type "bool") (rOwn1 C sp E isBV) := by
  intro pins s σ H xs us Q I r ⟨a, dx, fs, ex, ha, h⟩
  subst ex
  cases r with
  | cons r0 r1 =>
    cases r1
    cases r0
    obtain ⟨mA, O, _⟩ := ins_get I.hok ha
    obtain ⟨od, J, _⟩ := O.look
    refine boolB I.kIn J o.hs o.hf (wpAny_mono (run_fnAt F hr.in1.in1 I.env0.in1.in1 hb hx I (.cons (rv_ref _) .nil) h) (fun u s' ⟨v, H', I', r', ⟨b, ev⟩, q⟩ => ?_) fun _ _ z => z)
    subst ev
    cases r'
    exact ⟨b, rfl, .bl b, H', I', rfl, q⟩
theorem de_boolB (F : FnOk X.prog X.w X.K X.mg X.base CX k f fd ps (toSp X.K nf 1 S)) (hr : Room (k + 2) X.A) (hb : Binds X.K fd ps []) (hx : Passes CX X E) (o : BoolC X.K C f) (hg : Gl X "bool") (hm : X.mg "bool" = none) (ha : DE X nf e da) (hs : starEach [e] X.env = (false, eval e X.env) :: starEach [] X.env := by rfl) :
    DE X nf (.Call (.Name "bool" p) [e] [] pos) (dOwn1 C S boolDx da) := pe_imp (pe_callTy (call_boolB F hr hb hx o) hg hm (by decide +kernel) (pa_cons ha pa_nil hs) (by decide) (by decide) hs) (lift_own1 fun H v d r ⟨n, ed⟩ => by subst ed; exact ⟨n, rel_bl r⟩)
/-! ### sorted(set(x)), x a slot -/
def sqAt (K : PySem.W.Frag) (env : EV nf) (i : Nat) (xs : List D) : Prop := env[i]? = some (.fz (.lst xs)) ∨ env[i]? = some (.fz (.tup xs)) ∨ ∃ v, env[i]? = some (.ow v (lstA K nf xs))
theorem EnvR.sq {H : Hp} {σ : St} {env : EV nf} {fp : List Addr} (R : EnvR K nf H σ env fp) {xs : List D} (h : sqAt K env i xs) : ∃ l vs, σ[i]? = some (some (.ref l)) ∧ (SqL K H l vs ∨ SqT K H l vs) ∧ Rels K nf H vs xs := by
  rcases h with h | h | ⟨v, h⟩
  · obtain ⟨o, fi, e1, ⟨_, u, eo, r⟩, _⟩ := R.at h
    subst eo
    cases r with
    | @lst a vs _ hl rr => exact ⟨a, vs, e1, .inl hl.sq, rr⟩
  · obtain ⟨o, fi, e1, ⟨_, u, eo, r⟩, _⟩ := R.at h
    subst eo
    cases r with
    | @tup a vs _ hl rr => exact ⟨a, vs, e1, .inr hl, rr⟩
  · obtain ⟨p, vs, ev, e1, hp, rr, _⟩ := R.lstAt h
    exact ⟨p, vs, e1, .inl (SqL.of hp), rr⟩
def dSortSetQ (K : PySem.W.Frag) (i : Nat) : DT nf := fun env Q => ∃ ps : List DS.Pr, sqAt K env i (ps.map pairD) ∧ DS.FewP ps ∧ Q (.lst ((ascP ps).map pairD)) env
theorem de_sortSetQ {p2 pos2 : Pos} (hc : X.calm = true) (hu : X.A.units + 64 < cLine) (hg : Gl X "sorted") (hm : X.mg "sorted" = none) (hg2 : Gl X "set") (hm2 : X.mg "set" = none) (hl : PE X e (tVar i))
    (he : starEach [e] X.env = (false, eval e X.env) :: starEach [] X.env := by rfl) (hpl : (backTo pos2 (starEach [] X.env)).any (·.1) = false := by rfl)
    (he2 : starEach [.Call (.Name "set" p2) [e] [] pos2] X.env = (false, eval (.Call (.Name "set" p2) [e] [] pos2) X.env) :: starEach [] X.env := by rfl) (hpl2 : (backTo pos (starEach [] X.env)).any (·.1) = false := by rfl) :
    DE X nf (.Call (.Name "sorted" p) [.Call (.Name "set" p2) [e] [] pos2] [] pos) (dSortSetQ X.K i) :=
  pe_imp (pe_fz (pe_callB (DS.cr_sortSet hc) hg hm (by decide +kernel) (pa_cons (pe_callTy (DS.cr_setM hc hu) hg2 hm2 (by decide +kernel) (pa_cons hl pa_nil he) (by decide) (by decide) he hpl) pa_nil) (by decide) (by decide) he2 hpl2)) fun σ H Q ⟨env, fp, Qd, R, ⟨ps, hsl, hf, q⟩, k⟩ => by
    obtain ⟨l, ws, e1, hs, rr⟩ := R.sq hsl
    refine ⟨.ref l, e1, l, ws, ps, rfl, hs, rels_pairs rr, hf, fun a L hn hL hA => ?_⟩
    have x1 : Xt H (upd H a (DS.SetGO X.prog X.w a L)) := Xt.new hn
    refine ⟨a, L, rfl, upd_same, fun z hz => ⟨(hL z hz).1, sqT_mono (nf := nf) x1.stp (hL z hz).2.2⟩, fun ys qs p hP hp hnd hs hn2 => ⟨p, _, rfl, upd_same, trivial, fun o => ?_⟩⟩
    have eq : qs = ascP ps := asc_ext (asc_of (hs.imp fun {p q} h => by simp [leM, h]) hnd) (ascP_asc ps) fun z => by
      rw [hp.mem_iff, mem_ascP]
      constructor
      · intro m
        obtain ⟨y, hy, rfl⟩ := List.mem_map.mp m
        exact (hL y hy).2.1
      · exact hA z
    subst eq
    have x2 := xt_fz (u := .lst ys) (o := o) (Xt.new (o := .lst ys) hn2) hn2
    have x := x1.trans x2
    exact k _ _ _ env fp (.lst ⟨o, upd_same⟩ ((pairs_rels hP).mono x2.stp)) (R.ext x) x.ch q
/-! ### x.clear() -/
def sClear (K : PySem.W.Frag) (i : Nat) : DTS nf := fun De env => ∃ v xs, env[i]? = some (.ow v (lstA K nf xs)) ∧ De.nx (env.set i (.ow v (lstA K nf [])))
theorem ty_clear : typeOf (.builtin "list.clear") = pure (.type "method_descriptor") := by show builtinType _ = _; rw [builtinType_eq_fast]; kernel_rfl
theorem ds_clear {o : Expr} {apos cpos : Pos} (ho : PE X o (tVar i)) (hbase : attributeBase o "clear" X.env (eval o X.env) = eval o X.env := by rfl) (hline : (apos.endLine == cpos.line) = true := by rfl)
    (hs : swapsWith (.Call (.Attribute o "clear" apos) [] [] cpos) none pos.line X.env = pure false := by rfl) : DS X nf (.Expr (.Call (.Attribute o "clear" apos) [] [] cpos) pos) (sClear X.K i) :=
  ps_imp (ps_expr (pe_bm0 PySem.F.plainAttrs_list PySem.F.slot_list_clear ty_clear mt_clear ho hbase hline) hs) fun E' σ H ⟨env, fp, De, R, ⟨v, xs, ei, q⟩, br⟩ => by
    obtain ⟨p, vs, ev, es, hp, rr, rep⟩ := R.lstAt ei
    subst ev
    obtain ⟨fp2, R2, c2⟩ := rep [] [] .nil
    exact ⟨_, es, Or.inl ⟨rfl, vs, SqL.of hp⟩, p, vs, rfl, rfl, hp, br.nx σ _ _ fp2 R2 c2 q⟩
end
/-! ### x = list(e), one's own -/
section
open PySem L2
variable [Anch] {X : Cx} {nf : Addr → Nat} {K : PySem.W.Frag}
def sSetLL (K : PySem.W.Frag) (i : Nat) (r : DAs nf) : DTS nf := fun De env => r env fun ds env1 => ∃ xs, (ds = [.lst xs] ∨ ds = [.tup xs]) ∧ i < env1.length ∧ ∀ p, De.nx (env1.set i (.ow (.ref p) (lstA K nf xs)))
theorem ds_setLL {i : Nat} {x : Str} {e : Expr} {r : DAs nf} {pos pos' p cpos : Pos} (hN : X.N.Nodup) (hi : X.N[i]? = some x) (hx : Loc X.env.scope x) (hg : Gl X "list") (hm : X.mg "list" = none) (h : DA X nf [e] r) (he : starEach [e] X.env = (false, eval e X.env) :: starEach [] X.env := by rfl)
    (hs : swapsWith (.Call (.Name "list" p) [e] [] cpos) (some (.Name x pos')) pos.line X.env = pure false := by rfl)
    (hf : X.fn x = true ∨ X.env.scope.names.lookup x = some .local := by first | exact .inl rfl | exact .inr rfl | assumption) : DS X nf (.Assign [.Name x pos'] (.Call (.Name "list" p) [e] [] cpos) pos) (sSetLL X.K i r) :=
  ps_imp (ps_set hN hi hx (pe_callTy call_list_of hg hm (by decide +kernel) h (by decide) (by decide) he) hs hf) fun E σ H ⟨env, fp, De, R, q, br⟩ => ⟨env, fp, _, R, q, fun vs H1 ds env1 fp1 r1 R1 c1 ⟨xs, e, hl, q1⟩ => by
    obtain ⟨a, ws, ev, hq, rr⟩ : ∃ (a : Addr) (ws : List V), vs = [V.ref a] ∧ (SqL X.K H1 a ws ∨ SqT X.K H1 a ws) ∧ Rels X.K nf H1 ws xs := by
      rcases e with rfl | rfl
      · obtain ⟨v, rfl, hr⟩ := rels1x r1
        cases hr with
        | @lst a ws _ hz rr => exact ⟨a, ws, rfl, .inl hz.sq, rr⟩
      · obtain ⟨v, rfl, hr⟩ := rels1x r1
        cases hr with
        | @tup a ws _ hz rr => exact ⟨a, ws, rfl, .inr hz, rr⟩
    subst ev
    refine ⟨a, ws, rfl, hq, fun p hp => ?_⟩
    have x : Xt H1 (upd H1 p (.lst ws)) := Xt.new hp
    obtain ⟨fp2, R2, c2⟩ := R1.setNew (i := i) (v := .ref p) (A := lstA X.K nf xs) (fi := [p]) hl x ⟨p, ws, rfl, rfl, upd_same, rr.mono x.stp⟩ (fun a m => by rw [List.mem_singleton.mp m]; exact hp)
    exact br.nx _ _ _ fp2 R2 (c1.trans c2) (q1 p)⟩
end
/-! ### def f(cls, *v), a classmethod -/
section
open PySem PySem.Spec PyProof.Rows L2
variable {P : Program} {w : World} {K : PySem.W.Frag} {mg : Str → Option Value} {base : Heap}
def starSp (n : Nat) (sp : Sp) : Sp := fun vs H Q E => ∃ ws rest, vs = ws ++ rest ∧ ws.length = n ∧ rest.length ≤ sizeLine ∧ ∀ p, H p = Option.none → sp (ws ++ [V.ref p]) (upd H p (.tup rest)) Q E
theorem fun_okS {x qual : Str} {st : Stmt} {f : Addr} {fd : FuncData} {N ps : List Str} {pv : Str} {k : Nat} {sp : Sp} (F : Fun K x qual st f fd) (S : FnScope N (ps ++ [pv]) (defScope st))
    (hb : ∀ (kV doc pm : Value) (an : Option Addr) (cdv ct : Value) (us rest : List Value), us.length = ps.length → bindArgs (PySem.W.fnOf x qual (defArgs st) (defBody st) (defScope st) .none kV doc pm an cdv ct) ⟨us ++ rest, []⟩ = (newTuple rest >>= fun t => pure (ps.zip us ++ [(pv, t)])))
    (hbody : ∀ (cdv : Value) (A : Around) (outer : List Env) (s : Shared) (H : Hp) (vs : List V) (Q : VK) (E : XK), Room k (A.deeper (envOfC qual (defScope st) s.heap.objs.size f cdv)) → sp vs H Q E →
      ∃ t, PSs (cxOf CX0 P w K mg base N qual (defScope st) f cdv A outer s H E).nox (defBody st) t ∧ t { nx := fun _ H' => Q .non H', rt := Q } (start N vs) H) : FnR P w K mg base CX0 (k + 1) f (starSp ps.length sp) := by
  obtain ⟨oc, od, kV, doc, pm, an, cdv, ct, osl, e, lk, hcd⟩ := F.ex
  rw [e] at lk
  refine StX.fn_star lk hcd S StX.cxUp_none (hb kV doc pm an cdv ct) fun A outer s H vs Q E hr hsp => ?_
  obtain ⟨t, h, q⟩ := hbody cdv A outer s H vs Q E hr hsp
  exact ⟨t, h.nox, q⟩
end
section
open PySem L2
open ClX (CRead CMet)
variable [Anch] {X : Cx} {nf : Addr → Nat} {K : PySem.W.Frag} {CX : CXT} {k : Nat} {f C pr : Addr} {mc : Value} {S : SpD nf} {E : XK} {m : Str} {pos apos : Pos} {e o : Expr} {es : List Expr} {ra : DAs nf} {da : DT nf}
def dCMethS (C : Addr) (S : SpD nf) (da : DT nf) (ra : DAs nf) : DT nf := fun env Q => da env fun ob env0 => ob = .cls C ∧ ra env0 fun ds env1 => ds.length ≤ 1000000 ∧ S [.fz (.cls C), .fz (.tup ds)] fun d _ => Q d env1
theorem de_cmethS {pl : Sem Bool} (he : DE X nf o da) (cr : CRead X.K C mc) (cm : CMet X.K C mc m pr f) (F : FnR X.prog X.w X.K X.mg X.base CX k f (starSp 1 (toSp X.K nf 2 S))) (hr : Room k X.A) (hx : Passes CX X E) (ha : DA X nf (e :: es) ra)
    (hst : starEach (e :: es) X.env = (false, eval e X.env) :: starEach es X.env := by rfl) (hpl : (backTo pos (starEach es X.env)).any (·.1) = false := by rfl)
    (ht : eval (.Call (.Attribute o m apos) (e :: es) [] pos) X.env = (do
      let ov ← eval o X.env
      standAt apos.atName
      let (f, first) ← holding [ov] (getMethod ov m pl)
      callWith pos f first (backTo pos (starEach (e :: es) X.env)) (backToKw pos (keywordEach [] X.env))) := by rfl) :
    DE X nf (.Call (.Attribute o m apos) (e :: es) [] pos) (dCMethS C S da ra) := pe_imp (ClX.pe_cmeth (pl := pl) he cr cm F hr hx ha hst hpl ht) fun σ H Q ⟨env, fp, Qd, R, h, k⟩ => by
  refine lift_run R h fun v H0 ob env0 fp0 r0 R0 c0 ⟨eo, h⟩ => ?_
  subst eo
  cases r0 with
  | cls =>
    refine ⟨rfl, env0, fp0, _, R0, h, fun vs H1 ds env1 fp1 r1 R1 c1 ⟨hl, s⟩ => ⟨[.ref C], vs, rfl, rfl, by rw [r1.length]; exact sz_ok hl, fun p hp => ?_⟩⟩
    have x : Xt H1 (upd H1 p (.tup vs)) := Xt.new hp
    exact sp_run (ads := [.v (.cls C), .v (.tup ds)]) (R1.ext x) (.val (.cls C) (.val (.tup (.inl (.inl upd_same)) (r1.mono x.stp)) .nil)) rfl List.nodup_nil (fun i m => by cases m) (by simp only [pb2]; exact s) fun w H2 d env2 fp2 r2 R2 c2 q => k w H2 d env2 fp2 r2 R2 (((c0.trans c1).trans x.ch).trans c2) q
end
/-! ### steps -/
section
open PySem L2
variable {nf : Addr → Nat} {env : EV nf} {env' : Addr → EV nf} {envA : EV nf} {da : DT nf} {ra : DAs nf} {Q : D → EV nf → Prop} {C : Addr} {S : SpD nf} {x : D} {K : PySem.W.Frag} {i : Nat} {De : EndsD nf} {g : DG nf} {b : DTS nf} {xs : List D}
def SetLLK (K : PySem.W.Frag) (i : Nat) (De : EndsD nf) : List D → EV nf → Prop := fun ds env1 => ∃ xs, (ds = [.lst xs] ∨ ds = [.tup xs]) ∧ i < env1.length ∧ ∀ p, De.nx (env1.set i (.ow (.ref p) (lstA K nf xs)))
theorem sSetLL_s (h : ra env (SetLLK K i De)) : sSetLL K i ra De env := h
theorem setLL_s (hl : Nat.blt i env.length = true) (e : ∀ p, env.set i (.ow (.ref p) (lstA K nf xs)) = env' p) (h : ∀ p, De.nx (env' p)) : SetLLK K i De [.lst xs] env := ⟨xs, .inl rfl, Nat.blt_eq.mp hl, fun p => by rw [e p]; exact h p⟩
theorem sClear_s {v : V} (e : env[i]? = some (.ow v (lstA K nf xs))) (e2 : env.set i (.ow v (lstA K nf [])) = envA) (h : De.nx envA) : sClear K i De env := ⟨v, xs, e, e2 ▸ h⟩
def CMethSK2 (C : Addr) (S : SpD nf) (Q : D → EV nf → Prop) : List D → EV nf → Prop := fun ds env1 => ds.length ≤ 1000000 ∧ S [.fz (.cls C), .fz (.tup ds)] fun d _ => Q d env1
def CMethSK (C : Addr) (S : SpD nf) (ra : DAs nf) (Q : D → EV nf → Prop) : D → EV nf → Prop := fun ob env0 => ob = .cls C ∧ ra env0 (CMethSK2 C S Q)
theorem dCMethS_s (h : da env (CMethSK C S ra Q)) : dCMethS C S da ra env Q := h
theorem cmethSK_s (h : ra env (CMethSK2 C S Q)) : CMethSK C S ra Q (.cls C) env := ⟨rfl, h⟩
theorem cmethSK2_s (hl : Nat.ble xs.length 1000000 = true) (h : S [.fz (.cls C), .fz (.tup xs)] fun d _ => Q d env) : CMethSK2 C S Q xs env := ⟨Nat.le_of_ble_eq_true hl, h⟩
/-- an invariant of the loop over an owned list -/
theorem forO_inv {v : V} {ys : List D} (Iv : List D → EV nf → Prop) (keep : ∀ xs env, Iv xs env → env[i]? = some (.ow v (lstA K nf ys))) (step : ∀ x xs env (R : EV nf → Prop), Iv (x :: xs) env → (∀ env', Iv xs env' → R env') → g x env fun env1 => b { De with nx := R, ct := R, bk := De.nx } env1) (fin : ∀ env, Iv [] env → De.nx env) :
    ∀ ds env, Iv ds env → dForO K i v ys g b ds De env
  | [], env, h => ⟨keep [] env h, fin env h⟩
  | x :: xs, env, h => ⟨keep (x :: xs) env h, step x xs env (dForO K i v ys g b xs De) h fun env' h' => forO_inv Iv keep step fin xs env' h'⟩
end
end DL

namespace K01
open PySem L2 DL
open DS (Pr ltM)
/-! ### what the defs promise -/
def letters : Str := "abcdefghijklmnopqrstuvwxyz"
def digits : Str := "0123456789"
def isWordB (s : Str) : Bool := decide (1 ≤ s.length) && decide (s.length ≤ 12) && s.cps.toList.all fun c => decide (c ∈ letters.cps.toList) || decide (c ∈ digits.cps.toList)
def headB (s : Str) : Bool := match s.cps.toList with | c :: _ => decide (c ∈ letters.cps.toList) | [] => false
def isIdB (s : Str) : Bool := isWordB s && headB s && !inV (.str s) keptV
/-- a right pair -/
def goodP (p : Pr) : Prop := 0 ≤ p.1 ∧ p.1 < 10 ^ 60 ∧ isIdB p.2 = true
section
variable (K : PySem.W.Frag) (a : Ad)
abbrev capD (l : List Pr) : D := .obj a.C_Captures [("pairs", .tup (l.map pairD))]
abbrev rowD (l : List Pr) : D := .lst (l.map pairD)
/-- d is a list or a tuple of the pairs -/
def SeqP (d : D) (ps : List Pr) : Prop := (d = .lst (ps.map pairD) ∨ d = .tup (ps.map pairD)) ∧ (∀ p ∈ ps, goodP p) ∧ DS.FewP ps
/-- a captures object of the pairs l, or a list or a tuple of them -/
def Opd (d : D) (l : List Pr) : Prop := AscP l ∧ (∀ p ∈ l, goodP p) ∧ l.length < 64 ∧ (d = capD a l ∨ ∃ ps, SeqP d ps ∧ ascP ps = l)
def S_is_word : SpD (nf a) := fun as Q => ∃ s : Str, as = [.fz (.str s)] ∧ s.length ≤ 1000000 ∧ Q (.bl (isWordB s)) as
def S_is_identifier : SpD (nf a) := fun as Q => ∃ s : Str, as = [.fz (.str s)] ∧ s.length ≤ 1000000 ∧ Q (.bl (isIdB s)) as
def S_is_pair : SpD (nf a) := fun as Q => ∃ p, as = [.fz (pairD p)] ∧ goodP p ∧ Q (.bl true) as
def S_in_order : SpD (nf a) := fun as Q => ∃ d ps, as = [.fz d] ∧ SeqP d ps ∧ Q (.tup ((ascP ps).map pairD)) as
def S_Captures_init : SpD (nf a) := fun as Q => ∃ v d ps, as = [.ow v (insA K (nf a) a.C_Captures []), .fz d] ∧ SeqP d ps ∧ Q .non [.fr v (capD a (ascP ps)), .fz d]
def S_pairs_of : SpD (nf a) := fun as Q => ∃ (d : D) (l : List Pr), as = [.fz d] ∧ Opd a d l ∧ Q (.tup (l.map pairD)) as
def S_shared_pairs : SpD (nf a) := fun as Q => ∃ l m : List Pr, as = [.fz (.tup (l.map pairD)), .fz (.tup (m.map pairD))] ∧ (∀ p ∈ l, goodP p) ∧ (∀ p ∈ m, goodP p) ∧ l.length ≤ 1000 ∧ Q (.lst ((l.filter fun p => decide (p ∈ m)).map pairD)) as
def S_missing_pairs : SpD (nf a) := fun as Q => ∃ l m : List Pr, as = [.fz (.tup (l.map pairD)), .fz (.tup (m.map pairD))] ∧ (∀ p ∈ l, goodP p) ∧ (∀ p ∈ m, goodP p) ∧ l.length ≤ 1000 ∧ Q (.lst ((l.filter fun p => !decide (p ∈ m)).map pairD)) as
/-- what an operator gives: the pairs of r, ascending -/
def opS (r : List Pr → List Pr → List Pr) : SpD (nf a) := fun as Q => ∃ l y m, as = [.fz (capD a l), .fz y] ∧ Opd a (capD a l) l ∧ Opd a y m ∧ DS.FewP (l ++ m) ∧ Q (capD a (ascP (r l m))) as
abbrev S_Captures_or := opS a fun l m => l ++ m
abbrev S_Captures_ror := opS a fun l m => l ++ m
abbrev S_Captures_and := opS a fun l m => l.filter fun p => decide (p ∈ m)
abbrev S_Captures_rand := opS a fun l m => l.filter fun p => decide (p ∈ m)
abbrev S_Captures_sub := opS a fun l m => l.filter fun p => !decide (p ∈ m)
abbrev S_Captures_rsub := opS a fun l m => m.filter fun p => !decide (p ∈ l)
abbrev S_Captures_xor := opS a fun l m => (l.filter fun p => !decide (p ∈ m)) ++ m.filter fun p => !decide (p ∈ l)
abbrev S_Captures_rxor := opS a fun l m => (l.filter fun p => !decide (p ∈ m)) ++ m.filter fun p => !decide (p ∈ l)
/-- the tape of the draws stands in v, at most b draws were made -/
def Tp (v : V) (b : Int) (s : SD (nf a)) : Prop := ∃ c n f k : Int, s = .ow v (lstA K (nf a) [.int c, .int n, .int f, .int k]) ∧ (f = 0 ∨ f = 1 ∧ 0 ≤ c ∧ c < 10 ^ 18) ∧ 0 ≤ n ∧ n ≤ b ∧ 0 ≤ k ∧ k ≤ 63
def S_law_tape : SpO (nf a) := fun as Q => ∃ (ns : List Int) (k : Int), as = [.fz (.scr ns), .fz (.int k)] ∧ 0 ≤ k ∧ k ≤ 63 ∧ ∀ v s, Tp K a v 0 s → Q s as
def S_law_draw : SpD (nf a) := fun as Q => ∃ v s b m, as = [s, .fz (.int m)] ∧ Tp K a v b s ∧ b ≤ 1000 ∧ 0 < m ∧ m ≤ 10 ^ 60 ∧ ∀ s' d, Tp K a v (b + 1) s' → 0 ≤ d → d < m → Q (.int d) [s', .fz (.int m)]
def keptWords : List Str := ["name", "flag", "slot", "func", "open", "own", "look", "bind", "call", "keep", "take", "shift", "run", "drop", "apart", "when", "held", "fail", "guard", "else", "after", "end", "with", "of", "on", "off"]
def signs : Str := "abcdefghijklmnopqrstuvwxyz0123456789"
def S_law_kept : SpD (nf a) := fun as Q => as = [] ∧ Q (.lst (keptWords.map .str)) as
def S_law_signs : SpD (nf a) := fun as Q => as = [] ∧ Q (.str signs) as
def S_law_spelled : SpD (nf a) := fun as Q => ∃ v s b, as = [s, .fz (.lst [])] ∧ Tp K a v b s ∧ b ≤ 900 ∧ ∀ s' z, Tp K a v (b + 20) s' → isWordB z = true → headB z = true → Q (.str z) [s', .fz (.lst [])]
def S_law_ident : SpD (nf a) := fun as Q => ∃ v s b, as = [s, .fz (.lst [])] ∧ Tp K a v b s ∧ b ≤ 900 ∧ ∀ s' z, Tp K a v (b + 20) s' → isIdB z = true → Q (.str z) [s', .fz (.lst [])]
def S_law_number : SpD (nf a) := fun as Q => ∃ v s b, as = [s] ∧ Tp K a v b s ∧ b ≤ 900 ∧ ∀ s' i, Tp K a v (b + 2) s' → 0 ≤ i → i < 10 ^ 60 → Q (.int i) [s']
def S_law_pairs : SpD (nf a) := fun as Q => ∃ ns i j, as = [.fz (.scr ns), .fz (.int i), .fz (.int j)] ∧ ns.length ≤ 63 ∧ 0 ≤ i ∧ i ≤ 64 ∧ 0 ≤ j ∧ j ≤ 63 ∧ ∀ ps : List Pr, (∀ p ∈ ps, goodP p) → (ps.length : Int) = (if i ≤ j then j - i else 0) → Q (.lst (ps.map pairD)) as
def S_law_ascending : SpD (nf a) := fun as Q => ∃ ps : List Pr, as = [.fz (.lst (ps.map pairD))] ∧ (∀ p ∈ ps, goodP p) ∧ ps.length ≤ 1000 ∧ Q (.lst ((ascP ps).map pairD)) as
/-- the slot s holds the pairs: a list or a tuple, or a list of one's own -/
def SeqS (s : SD (nf a)) (ps : List Pr) : Prop := ((∃ d, s = .fz d ∧ (d = .lst (ps.map pairD) ∨ d = .tup (ps.map pairD))) ∨ ∃ v, s = .ow v (lstA K (nf a) (ps.map pairD))) ∧ (∀ p ∈ ps, goodP p) ∧ DS.FewP ps
def S_in_orderQ : SpD (nf a) := fun as Q => ∃ s ps, as = [s] ∧ SeqS K a s ps ∧ Q (.tup ((ascP ps).map pairD)) as
def S_Captures_initQ : SpD (nf a) := fun as Q => ∃ v s ps, as = [.ow v (insA K (nf a) a.C_Captures []), s] ∧ SeqS K a s ps ∧ Q .non [.fr v (capD a (ascP ps)), s]
def S_Captures_of : SpD (nf a) := fun as Q => ∃ ps : List Pr, as = [.fz (.cls a.C_Captures), .fz (.tup (ps.map pairD))] ∧ (∀ p ∈ ps, goodP p) ∧ DS.FewP ps ∧ Q (capD a (ascP ps)) as
def S_Captures_len : SpD (nf a) := fun as Q => ∃ l : List Pr, as = [.fz (capD a l)] ∧ l.length ≤ 1000 ∧ Q (.int (l.length : Int)) as
def S_Captures_bool : SpD (nf a) := fun as Q => ∃ l : List Pr, as = [.fz (capD a l)] ∧ l.length ≤ 1000 ∧ Q (.bl (cGt (l.length : Int) 0)) as
def atL (l : List Pr) (n : Int) : List D := (l.filter fun p => decide (p.1 = n)).map fun p => .str p.2
def S_Captures_at : SpD (nf a) := fun as Q => ∃ (l : List Pr) (n : Int), as = [.fz (capD a l), .fz (.int n)] ∧ l.length ≤ 1000 ∧ Q (.tup (atL l n)) as
def S_law_agrees : SpD (nf a) := fun as Q => ∃ l : List Pr, as = [.fz (capD a l), .fz (rowD l)] ∧ (∀ p ∈ l, goodP p) ∧ l.length ≤ 1000 ∧ Q (.bl true) as
def S_law : SpD (nf a) := fun as Q => ∃ ns, as = [.fz (.scr ns)] ∧ ns.length ≤ 63 ∧ Q (.bl true) as
end
end K01

namespace K01
open PySem L2 DL
def kept : D := .tup [.str "name", .str "flag", .str "slot", .str "func", .str "open", .str "own", .str "look", .str "bind", .str "call", .str "keep", .str "take", .str "shift", .str "run", .str "drop", .str "apart", .str "when", .str "held", .str "fail", .str "guard", .str "else", .str "after", .str "end", .str "with", .str "of", .str "on", .str "off"]
def td_is_word (K : PySem.W.Frag) (a : Ad) : DTS (nf a) :=
    (sSeq (sIf (dOr (dNot (dBv (dCB (fIsi K) (aCons (dVar 0) (aCons (dC (.ty "str")) aNil))))) (dNot (dBv (dChain cLe cLe (dC (.int 1)) (dCB fLenG (aCons (dVar 0) aNil)) (dC (.int 12)))))) (sRet (dC (.bl false))) sNext)
    (sRet (dCB fAll (aCons (dLc (iS (dVar 0)) (gN 1) dYes (dOrV (dF (inF false) (dVar 1) (dC (.str "abcdefghijklmnopqrstuvwxyz"))) (dF (inF false) (dVar 1) (dC (.str "0123456789")))) [1]) aNil))))
def td_is_identifier (K : PySem.W.Frag) (a : Ad) : DTS (nf a) :=
    (sRet (dAndV (dCall 1 (S_is_word a) [] (mVal (dVar 0) mNil)) (dAndV (dF (inF false) (dF ixD (dVar 0) (dC (.int 0))) (dC (.str "abcdefghijklmnopqrstuvwxyz"))) (dF ninF (dVar 0) (dC kept)))))
def td_is_pair (K : PySem.W.Frag) (a : Ad) : DTS (nf a) :=
    (sSeq (sIf (dOr (dNot (dBv (dCB (fIsi K) (aCons (dVar 0) (aCons (dC (.ty "tuple")) aNil))))) (dBv (dEqG true (dCB fLenG (aCons (dVar 0) aNil)) (dC (.int 2))))) (sRet (dC (.bl false))) sNext)
    (sSeq (sAsg (dVar 0) (gT 2 (gsCons (gN 1) (gsCons (gN 2) gsNil))))
    (sSeq (sIf (dOr (dNot (dBv (dCB (fIsi K) (aCons (dVar 1) (aCons (dC (.ty "int")) aNil))))) (dOr (dBv (dCB (fIsi K) (aCons (dVar 1) (aCons (dC (.ty "bool")) aNil)))) (dNot (dBv (dChain cLe cLt (dC (.int 0)) (dVar 1) (dC (.int (10 ^ 60)))))))) (sRet (dC (.bl false))) sNext)
    (sRet (dCall 1 (S_is_identifier a) [] (mVal (dVar 2) mNil))))))
def td_in_order (K : PySem.W.Frag) (a : Ad) : DTS (nf a) :=
    (sSeq (sForQ K 0 (gN 1) (sIf (dNot (dBv (dCall 1 (S_is_pair a) [] (mVal (dVar 1) mNil)))) sNever sNext))
    (sRet (dCB fTuple (aCons (dSortSetQ K 0) aNil))))
def td_Captures_init (K : PySem.W.Frag) (a : Ad) : DTS (nf a) :=
    (sFldS K a.C_Captures 0 "pairs" (dCall 1 (S_in_orderQ K a) [] (mSlot 1 mNil)))
def td_Captures_of (K : PySem.W.Frag) (a : Ad) : DTS (nf a) :=
    (sRet (dMakeL K 0 2 a.C_Captures (S_Captures_initQ K a) [] (mVal (dVar 1) mNil)))
def td_Captures_len (K : PySem.W.Frag) (a : Ad) : DTS (nf a) :=
    (sRet (dCB fLenG (aCons (dFld a.C_Captures "pairs" (dVar 0)) aNil)))
def td_Captures_bool (K : PySem.W.Frag) (a : Ad) : DTS (nf a) :=
    (sRet (dCmp cGt (dCB fLenG (aCons (dFld a.C_Captures "pairs" (dVar 0)) aNil)) (dC (.int 0))))
def td_Captures_at (K : PySem.W.Frag) (a : Ad) : DTS (nf a) :=
    (sRet (dCB fTuple (aCons (dLc (iT (dFld a.C_Captures "pairs" (dVar 0))) (gN 2) (dBv (dEqG false (dF ixD (dVar 2) (dC (.int 0))) (dVar 1))) (dF ixD (dVar 2) (dC (.int 1))) [2]) aNil)))
def td_law_tape (K : PySem.W.Frag) (a : Ad) : DTS (nf a) :=
    (sSeq (sSet 2 (dC (.int 0)))
    (sSeq (sIf (dBv (dCmp cLt (dVar 1) (dCB fLenR (aCons (dVar 0) aNil)))) (sSet 2 (dCB fInt (aCons (dIxR (dVar 0) (dVar 1)) aNil))) sNext)
    (sRetL K (aCons (dVar 2) (aCons (dC (.int 0)) (aCons (dCB fInt (aCons (dChain cLe cLt (dC (.int 0)) (dVar 2) (dPow (dC (.int 10)) (dC (.int 18)))) aNil)) (aCons (dVar 1) aNil)))))))
def td_law_draw (K : PySem.W.Frag) (a : Ad) : DTS (nf a) :=
    (sSeq (sLAug K 0 1 (dC (.int 1)))
    (sSeq (sIf (dBv (dEqG false (dIxV K 0 (dC (.int 2))) (dC (.int 0)))) (sSeq (sSet 2 (dMod (dCB fInt (aCons (dIxV K 0 (dC (.int 0))) aNil)) (dVar 1)))
    (sSeq (sLPut K 0 (dC (.int 0)) (dDiv (dCB fInt (aCons (dIxV K 0 (dC (.int 0))) aNil)) (dVar 1)))
    (sRet (dVar 2)))) sNext)
    (sSeq (sSet 3 (dF ixD (dLst (aCons (dC (.int 2147483647)) (aCons (dC (.int 2147483629)) (aCons (dC (.int 2147483587)) (aCons (dC (.int 2147483579)) (aCons (dC (.int 2147483563)) aNil)))))) (dMod (dCB fInt (aCons (dIxV K 0 (dC (.int 1))) aNil)) (dC (.int 5)))))
    (sSeq (sSet 4 (dF addD (dIxV K 0 (dC (.int 0))) (dMul (dIxV K 0 (dC (.int 1))) (dC (.int 48271)))))
    (sSeq (sSet 5 (dMod (dCB fInt (aCons (dPow (dF addD (dF addD (dVar 4) (dMul (dIxV K 0 (dC (.int 3))) (dC (.int 104729)))) (dC (.int 40692))) (dC (.int 5))) aNil)) (dVar 3)))
    (sRet (dMod (dCB fInt (aCons (dDiv (dVar 5) (dC (.int 64))) aNil)) (dVar 1))))))))
def td_law_kept (K : PySem.W.Frag) (a : Ad) : DTS (nf a) :=
    (sSeq (sSet 0 (dC (.str "name flag slot func open own look bind call keep take shift run drop ")))
    (sRet (dSplit (dF addD (dVar 0) (dC (.str "apart when held fail guard else after end with of on off"))) (dC (.str " ")))))
def td_law_signs (K : PySem.W.Frag) (a : Ad) : DTS (nf a) :=
    (sRet (dC (.str "abcdefghijklmnopqrstuvwxyz0123456789")))
def td_law_spelled (K : PySem.W.Frag) (a : Ad) : DTS (nf a) :=
    (sSeq (sSet 2 (dCall 2 (S_law_draw K a) [] (mSlot 0 (mVal (dC (.int 5)) mNil))))
    (sSeq (sSet 3 (dF addD (dC (.int 1)) (dCall 2 (S_law_draw K a) [] (mSlot 0 (mVal (dC (.int 12)) mNil)))))
    (sSeqC (sIf (dBv (dEqG false (dVar 2) (dC (.int 0)))) (sSet 3 (dC (.int 1))) sNext)
    (sSeq (sIf (dBv (dEqG false (dVar 2) (dC (.int 1)))) (sRet (dF addD (dF ixD (dCall 0 (S_law_kept a) [] mNil) (dCall 2 (S_law_draw K a) [] (mSlot 0 (mVal (dC (.int 26)) mNil)))) (dF ixD (dCall 0 (S_law_signs a) [] mNil) (dCall 2 (S_law_draw K a) [] (mSlot 0 (mVal (dC (.int 36)) mNil)))))) sNext)
    (sSeqC (sIf (dAnd (dBv (dEqG false (dVar 2) (dC (.int 2)))) (dBv (dEqG true (dVar 1) (dLst aNil)))) (sSeq (sSet 4 (dF ixD (dVar 1) (dCall 2 (S_law_draw K a) [] (mSlot 0 (mVal (dCB fLenG (aCons (dVar 1) aNil)) mNil)))))
    (sSeq (sSet 5 (dCall 2 (S_law_draw K a) [] (mSlot 0 (mVal (dCB fLenG (aCons (dVar 4) aNil)) mNil))))
    (sRet (dF addD (dF addD (dSlS (dVar 4) oNone (oSome (dVar 5))) (dF ixD (dCall 0 (S_law_signs a) [] mNil) (dCall 2 (S_law_draw K a) [] (mSlot 0 (mVal (dC (.int 26)) mNil))))) (dSlS (dVar 4) (oSome (dF addD (dVar 5) (dC (.int 1)))) oNone))))) sNext)
    (sSeq (sSet 4 (dF ixD (dCall 0 (S_law_signs a) [] mNil) (dCall 2 (S_law_draw K a) [] (mSlot 0 (mVal (dC (.int 26)) mNil)))))
    (sSeq (sFor (iR1 (aCons (dSub (dVar 3) (dC (.int 1))) aNil)) (gN 5) (sSet 4 (dF addD (dVar 4) (dF ixD (dCall 0 (S_law_signs a) [] mNil) (dCall 2 (S_law_draw K a) [] (mSlot 0 (mVal (dC (.int 36)) mNil)))))))
    (sRet (dVar 4)))))))))
def td_law_ident (K : PySem.W.Frag) (a : Ad) : DTS (nf a) :=
    (sSeq (sSet 2 (dCall 2 (S_law_spelled K a) [] (mSlot 0 (mVal (dVar 1) mNil))))
    (sSeq (sIf (dAnd (dBv (dF ninF (dVar 2) (dVar 1))) (dBv (dF ninF (dVar 2) (dCall 0 (S_law_kept a) [] mNil)))) (sRet (dVar 2)) sNext)
    (sSeq (sFor (iR1 (aCons (dF addD (dCB fLenG (aCons (dVar 1) aNil)) (dC (.int 1))) aNil)) (gN 3) (sIf (dBv (dF ninF (dF addD (dSlS (dVar 2) oNone (oSome (dC (.int 9)))) (dCB fStrI (aCons (dVar 3) aNil))) (dVar 1))) (sRet (dF addD (dSlS (dVar 2) oNone (oSome (dC (.int 9)))) (dCB fStrI (aCons (dVar 3) aNil)))) sNext))
    (sRet (dVar 2)))))
def td_law_number (K : PySem.W.Frag) (a : Ad) : DTS (nf a) :=
    (sSeq (sIf (dBv (dEqG false (dCall 2 (S_law_draw K a) [] (mSlot 0 (mVal (dC (.int 3)) mNil))) (dC (.int 1)))) (sRet (dCall 2 (S_law_draw K a) [] (mSlot 0 (mVal (dPow (dC (.int 10)) (dC (.int 60))) mNil)))) sNext)
    (sRet (dCall 2 (S_law_draw K a) [] (mSlot 0 (mVal (dC (.int 13)) mNil)))))
def td_law_pairs (K : PySem.W.Frag) (a : Ad) : DTS (nf a) :=
    (sSeq (sSetL K 3 aNil)
    (sSeq (sFor (iR2 (aCons (dVar 1) (aCons (dVar 2) aNil))) (gN 4) (sSeq (sCallO 2 (S_law_tape K a) [] (mVal (dVar 0) (mVal (dVar 4) mNil)) 5)
    (sSeq (sSet 6 (dCall 2 (S_law_draw K a) [] (mSlot 5 (mVal (dC (.int 5)) mNil))))
    (sSeq (sSet 7 (dTup (aCons (dCall 1 (S_law_number K a) [] (mSlot 5 mNil)) (aCons (dCall 2 (S_law_ident K a) [] (mSlot 5 (mVal (dLst aNil) mNil))) aNil))))
    (sSeqC (sIf (dAnd (dBv (dEqV K true 3 (dLst aNil))) (dBv (dCmp cLt (dVar 6) (dC (.int 3))))) (sSeq (sSet 8 (dIxV K 3 (dCall 2 (S_law_draw K a) [] (mSlot 5 (mVal (dLenV K 3) mNil)))))
    (sSet 7 (dF ixD (dLst (aCons (dVar 8) (aCons (dTup (aCons (dF ixD (dVar 8) (dC (.int 0))) (aCons (dF ixD (dVar 7) (dC (.int 1))) aNil))) (aCons (dTup (aCons (dF ixD (dVar 7) (dC (.int 0))) (aCons (dF ixD (dVar 8) (dC (.int 1))) aNil))) aNil)))) (dVar 6)))) sNext)
    (fun De env => (∃ v xs, env[3]? = some (SD.ow v (lstA K (nf a) xs))) ∧ sApp K 3 (dVar 7) De env))))))
    (sRet (dVarF K 3))))
def td_law_ascending (K : PySem.W.Frag) (a : Ad) : DTS (nf a) :=
    (sSeq (sSetL K 1 aNil)
    (sSeq (sFor (iL (dVar 0)) (gN 2) (sIf (dBv (dInXV K true (dVar 2) 1)) (fun De env => (∃ v xs, env[1]? = some (SD.ow v (lstA K (nf a) xs))) ∧ sApp K 1 (dVar 2) De env) sNext))
    (sRet (dSortM (aCons (dVarF K 1) aNil)))))
def td_law_agrees (K : PySem.W.Frag) (a : Ad) : DTS (nf a) :=
    (sSeq (sIf (dOr (dNot (dBv (dCB (fIsi K) (aCons (dVar 0) (aCons (dC (.cls a.C_Captures)) aNil))))) (dOr (dNot (dBv (dCB (fIsi K) (aCons (dFld a.C_Captures "pairs" (dVar 0)) (aCons (dC (.ty "tuple")) aNil))))) (dBv (dEqG true (dFld a.C_Captures "pairs" (dVar 0)) (dCB fTuple (aCons (dVar 1) aNil)))))) (sRet (dC (.bl false))) sNext)
    (sSeq (sIf (dOr (dBv (dEqG true (dOwn1 a.C_Captures (S_Captures_len a) lenDx (dVar 0)) (dCB fLenG (aCons (dVar 1) aNil)))) (dBv (dEqG true (dOwn1 a.C_Captures (S_Captures_bool a) boolDx (dVar 0)) (dCmp cGt (dCB fLenG (aCons (dVar 1) aNil)) (dC (.int 0)))))) (sRet (dC (.bl false))) sNext)
    (sSeq (sSet 2 (dF addD (dLc (iL (dVar 1)) (gN 3) dYes (dF ixD (dVar 3) (dC (.int 0))) [3]) (dLst (aCons (dC (.int 0)) (aCons (dC (.int 13)) (aCons (dPow (dC (.int 10)) (dC (.int 60))) aNil))))))
    (sSeq (sFor (iL (dVar 2)) (gN 4) (sIf (dBv (dEqG true (dMeth 2 a.C_Captures "at" (S_Captures_at a) [] (dVar 0) (mVal (dVar 4) mNil)) (dCB fTuple (aCons (dLc (iL (dVar 1)) (gN 3) (dBv (dEqG false (dF ixD (dVar 3) (dC (.int 0))) (dVar 4))) (dF ixD (dVar 3) (dC (.int 1))) [3]) aNil)))) (sRet (dC (.bl false))) sNext))
    (sRet (dC (.bl true)))))))
def td_law (K : PySem.W.Frag) (a : Ad) : DTS (nf a) :=
    (sSeq (sSet 1 (dCall 3 (S_law_pairs a) [] (mVal (dVar 0) (mVal (dC (.int 1)) (mVal (dCB fMin (aCons (dC (.int 63)) (aCons (dCB fLenR (aCons (dVar 0) aNil)) aNil))) mNil)))))
    (sSeq (sSet 2 (dCall 1 (S_law_ascending a) [] (mVal (dVar 1) mNil)))
    (sSeq (sSetLL K 3 (aCons (dVar 1) aNil))
    (sSeqC (sIf (dBv (dEqG false (dCallT 2 (S_law_draw K a) 2 (S_law_tape K a) (mVal (dVar 0) (mVal (dC (.int 0)) mNil)) (mVal (dC (.int 2)) mNil)) (dC (.int 1)))) (sSet 4 (dMake K 2 a.C_Captures (S_Captures_initQ K a) [] (mVal (dCB fTuple (aCons (dVar 1) aNil)) mNil))) (sSet 4 (dMake K 2 a.C_Captures (S_Captures_initQ K a) [] (mSlot 3 mNil))))
    (sSeq (sIf (dBv (dEqV K true 3 (dVar 1))) (sRet (dC (.bl false))) sNext)
    (sSeq (sClear K 3)
    (sSeq (sIf (dNot (dBv (dCall 2 (S_law_agrees a) [] (mVal (dVar 4) (mVal (dVar 2) mNil))))) (sRet (dC (.bl false))) sNext)
    (sSeq (sSet 5 (dF addD (dSlL (dVar 1) oNone (oSome (dC (.int 2)))) (dLst (aCons (dTup (aCons (dC (.int 7)) (aCons (dC (.str "x")) aNil))) aNil))))
    (sSeq (sIf (dNot (dBv (dCall 2 (S_law_agrees a) [] (mVal (dCMethS a.C_Captures (S_Captures_of a) (dC (.cls a.C_Captures)) (aCons (dF ixD (dVar 5) (dNeg (dC (.int 1)))) (aCons (dF ixD (dVar 5) (dC (.int 0))) (aCons (dF ixD (dVar 5) (dC (.int 0))) (aCons (dF ixD (dVar 5) (dDiv (dCB fLenG (aCons (dVar 5) aNil)) (dC (.int 2)))) aNil))))) (mVal (dCall 1 (S_law_ascending a) [] (mVal (dVar 5) mNil)) mNil))))) (sRet (dC (.bl false))) sNext)
    (sSeq (sSet 6 (dCMethS a.C_Captures (S_Captures_of a) (dC (.cls a.C_Captures)) (aCons (dTup (aCons (dC (.int 7)) (aCons (dC (.str "x")) aNil))) aNil)))
    (sSeq (sSet 7 (dMake K 2 a.C_Captures (S_Captures_initQ K a) [.tup []] mNil))
    (sSeq (sIf (dOr (dBv (dEqG true (dFld a.C_Captures "pairs" (dVar 6)) (dTup (aCons (dTup (aCons (dC (.int 7)) (aCons (dC (.str "x")) aNil))) aNil)))) (dOr (dBv (dEqG true (dFld a.C_Captures "pairs" (dVar 7)) (dTup aNil))) (dOr (dBv (dEqG true (dOwn1 a.C_Captures (S_Captures_len a) lenDx (dVar 7)) (dC (.int 0)))) (dBv (dOwn1 a.C_Captures (S_Captures_bool a) boolDx (dVar 7)))))) (sRet (dC (.bl false))) sNext)
    (sRet (dCall 2 (S_law_agrees a) [] (mVal (dVar 4) (mVal (dVar 2) mNil))))))))))))))))
end K01

namespace K01
open PySem L2 DL
open DS (Pr ltM)
local macro_rules | `(tactic| walk_at "dn") => `(tactic| first | (simp only [List.set_cons_zero, List.set_cons_succ, List.map_cons, List.map_nil, List.append_nil, List.nil_append, List.cons_append, rs_v, rs_o, pb_nil, pb_v, pb_o, back_nil, back_fz, back_un, back_ow, wp_nil, wp_cons, List.getElem?_cons_zero, List.getElem?_cons_succ, Option.getD_some, stP1, stP2, stP3]; exact rfl) | exact rfl)
local macro_rules | `(tactic| walk_at "db") => `(tactic| repeat first | exact bo_nil | refine bo_fz ?_ | refine bo_un ?_ | refine bo_ow ?_ | refine bo_fr ?_)
local macro_rules | `(tactic| walk_at "dk") => `(tactic| first | exact kb1 | exact kb2 | exact kb3 | exact kb4 | exact kb5 | exact kb6)
local macro_rules | `(tactic| walk_at "da") => `(tactic| first | assumption | omega | decide | (exact Or.inl ⟨by omega, by omega⟩) | (exact Or.inr ⟨by omega, by omega⟩) | (exact ⟨by decide, by decide⟩) | (exact ⟨by decide, by decide, by omega⟩))
local macro_rules | `(tactic| walk_at "s1") => `(tactic| first
  | with_reducible refine sNext_s ?_
  | with_reducible refine sSeq_s ?_
  | with_reducible refine sBrk_s ?_
  | with_reducible refine sCnt_s ?_
  | with_reducible refine sIf_s ?_
  | with_reducible refine sRet_s ?_
  | with_reducible refine sRetN_s ?_
  | with_reducible refine sDrop_s ?_
  | with_reducible refine sSet_s ?_
  | with_reducible refine sAsg_s ?_
  | with_reducible refine gsNil_s ?_
  | with_reducible refine gsCons_s ?_
  | with_reducible refine sSetL_s ?_
  | with_reducible refine sSetDD_s ?_
  | with_reducible refine sDPutV_s ?_
  | with_reducible refine dC_s ?_
  | with_reducible refine dBv_s ?_
  | with_reducible refine bvK_s ?_
  | with_reducible refine dNot_s ?_
  | with_reducible refine dAnd_s ?_
  | with_reducible refine dOr_s ?_
  | with_reducible refine dYes_s ?_
  | with_reducible refine dAndV_s ?_
  | with_reducible refine dOrV_s ?_
  | with_reducible refine dNotV_s ?_
  | with_reducible refine andVK_s ?_
  | with_reducible refine orVK_s ?_
  | with_reducible refine notVK_s ?_
  | with_reducible refine dIf_s ?_
  | with_reducible refine dIsN_s ?_
  | with_reducible refine aNil_s ?_
  | with_reducible refine aCons_s ?_
  | with_reducible refine dTup_s ?_
  | with_reducible refine dLst_s ?_
  | with_reducible refine dD0_s ?_
  | with_reducible refine dOp_s ?_
  | with_reducible refine dAdd_s ?_
  | with_reducible refine dSub_s ?_
  | with_reducible refine dMul_s ?_
  | with_reducible refine dMod_s ?_
  | with_reducible refine dDiv_s ?_
  | with_reducible refine dPow_s ?_
  | with_reducible refine dCmp_s ?_
  | with_reducible refine opI0_s ?_
  | with_reducible refine dEqG_s ?_
  | with_reducible refine dF_s ?_
  | with_reducible refine addI_s ?_
  | with_reducible refine inS_s ?_
  | with_reducible refine dChain_s ?_
  | with_reducible refine chK_s ?_
  | with_reducible refine chK2_s ?_
  | with_reducible refine dCB_s ?_
  | with_reducible refine cbInt_s ?_
  | with_reducible refine cbIntB_s ?_
  | with_reducible refine cbAbs_s ?_
  | with_reducible refine cbLenL_s ?_
  | with_reducible refine cbLenT_s ?_
  | with_reducible refine cbLenD_s ?_
  | with_reducible refine cbList_s ?_
  | with_reducible refine cbListT_s ?_
  | with_reducible refine cbTuple_s ?_
  | with_reducible refine cbTupleT_s ?_
  | with_reducible refine cbDict_s ?_
  | with_reducible refine cbListD_s ?_
  | with_reducible refine dSortS_s ?_
  | with_reducible refine dItems_s ?_
  | with_reducible refine itemsK_s ?_
  | with_reducible refine dDS2_s ?_
  | with_reducible refine dS2K_s ?_
  | with_reducible refine dSplit_s ?_
  | with_reducible refine splK_s ?_
  | with_reducible refine dJoin_s ?_
  | with_reducible refine joinK_s ?_
  | with_reducible refine oNone_s ?_
  | with_reducible refine oSome_s ?_
  | with_reducible refine ok'_s ?_
  | with_reducible refine dSlS_s ?_
  | with_reducible refine dSlL_s ?_
  | with_reducible refine slLK_s ?_
  | with_reducible refine dFld_s ?_
  | with_reducible refine mNil_s ?_
  | with_reducible refine mVal_s ?_
  | with_reducible refine dCall_s ?_
  | with_reducible refine dMeth_s ?_
  | with_reducible refine dMake_s ?_
  | with_reducible refine dOwnOp_s ?_
  | with_reducible refine sStS_s ?_
  | with_reducible refine sCallO_s ?_
  | with_reducible refine sFldS_s ?_
  | with_reducible refine sFor_s ?_
  | with_reducible refine forCons_s ?_
  | with_reducible refine forNil_s ?_
  | with_reducible refine iL_s ?_
  | with_reducible refine ilK_s ?_
  | with_reducible refine ilS_s ?_
  | with_reducible refine iT_s ?_
  | with_reducible refine itK_s ?_
  | with_reducible refine iS_s ?_
  | with_reducible refine isK_s ?_
  | with_reducible refine iK_s ?_
  | with_reducible refine ikK_s ?_
  | with_reducible refine iKV_s ?_
  | with_reducible refine ikvK_s ?_
  | with_reducible refine iR1_s ?_
  | with_reducible refine iR2_s ?_
  | with_reducible refine dLc_s ?_
  | with_reducible refine dDc_s ?_
  | with_reducible refine dInV_s ?_
  | with_reducible refine dEqDG_s ?_
  | with_reducible refine dIsB_s ?_
  | with_reducible refine isBF_s ?_
  | with_reducible refine isBT_s ?_
  | ((with_reducible refine' dVar_s ?e0 ?_); (case e0 => exact rfl))
  | ((with_reducible refine' dVarQf_s ?e0 ?_); (case e0 => exact rfl))
  | ((with_reducible refine' dVarQo_s ?e0 ?e1 ?_); (case e0 => exact rfl); (case e1 => walk_at "dn"))
  | ((with_reducible refine' dPopV_s ?e0 ?_); (case e0 => exact rfl))
  | ((with_reducible refine' setK_s ?e0 ?e1 ?_); (case e0 => exact rfl); (case e1 => walk_at "dn"))
  | ((with_reducible refine' gN_s ?e0 ?e1 ?_); (case e0 => exact rfl); (case e1 => walk_at "dn"))
  | ((with_reducible refine' gT_s ?e0 ?_); (case e0 => exact rfl))
  | ((with_reducible refine' setL_s ?e0 ?e1 ?e2 ?_); (case e0 => exact rfl); (case e1 => exact rfl); (case e2 => (intro p; walk_at "dn")))
  | ((with_reducible refine' sSetD0_s ?e0 ?e1 ?_); (case e0 => exact rfl); (case e1 => (intro p; walk_at "dn")))
  | ((with_reducible refine' setDD_s ?e0 ?e1 ?_); (case e0 => exact rfl); (case e1 => (intro p; walk_at "dn")))
  | ((with_reducible refine' appW_s ?e0 ?_); (case e0 => exact rfl))
  | ((with_reducible refine' dVarF_s ?e0 ?e1 ?_); (case e0 => exact rfl); (case e1 => walk_at "dn"))
  | ((with_reducible refine' dVarFD_s ?e0 ?e1 ?_); (case e0 => exact rfl); (case e1 => walk_at "dn"))
  | ((with_reducible refine' dPutK_s ?e0 ?_); (case e0 => exact rfl))
  | ((with_reducible refine' lenQ_s ?e0 ?_); (case e0 => exact rfl))
  | ((with_reducible refine' opI_s ?e0 ?_); (case e0 => walk_at "da"))
  | ((with_reducible refine' eqF_s ?e0 ?_); (case e0 => exact rfl))
  | ((with_reducible refine' eqT_s ?e0 ?_); (case e0 => exact rfl))
  | ((with_reducible refine' fldK_s ?e0 ?_); (case e0 => exact rfl))
  | ((with_reducible refine' mSlot_s ?e0 ?e1 ?_); (case e0 => exact rfl); (case e1 => trivial))
  | ((with_reducible refine' callK_s ?e0 ?e1 ?e2 ?e3 ?e4 ?_); (case e0 => exact rfl); (case e1 => walk_at "dn"); (case e2 => exact rfl); (case e3 => exact rfl); (case e4 => walk_at "dn"))
  | ((with_reducible refine' methK_s ?e0 ?_); (case e0 => exact rfl))
  | ((with_reducible refine' methK2_s ?e0 ?e1 ?e2 ?e3 ?e4 ?_); (case e0 => exact rfl); (case e1 => walk_at "dn"); (case e2 => exact rfl); (case e3 => exact rfl); (case e4 => walk_at "dn"))
  | ((with_reducible refine' putK_s ?e0 ?_); (case e0 => walk_at "dn"))
  | ((with_reducible refine' mkK_s ?e0 ?_); (case e0 => walk_at "dn"))
  | ((with_reducible refine' callOK_s ?e0 ?e1 ?e2 ?e3 ?e4 ?e5 ?_); (case e0 => exact rfl); (case e1 => walk_at "dn"); (case e2 => exact rfl); (case e3 => exact rfl); (case e4 => exact rfl); (case e5 => walk_at "dn"))
  | ((with_reducible refine' putOK_s ?e0 ?_); (case e0 => walk_at "dn"))
  | ((with_reducible refine' dStI_s ?e0 ?e1 ?_); (case e0 => exact rfl); (case e1 => exact rfl))
  | ((with_reducible refine' dStN_s ?e0 ?_); (case e0 => exact rfl))
  | ((with_reducible refine' stSK_s ?e0 ?e1 ?e2 ?e3 ?_); (case e0 => exact rfl); (case e1 => exact rfl); (case e2 => walk_at "dn"); (case e3 => walk_at "dn"))
  | ((with_reducible refine' sStG_s ?e0 ?e1 ?e2 ?_); (case e0 => exact rfl); (case e1 => exact rfl); (case e2 => exact rfl))
  | ((with_reducible refine' stGK_s ?e0 ?e1 ?e2 ?_); (case e0 => exact rfl); (case e1 => walk_at "dn"); (case e2 => walk_at "dn"))
  | ((with_reducible refine' sStPop_s ?e0 ?e1 ?_); (case e0 => exact rfl); (case e1 => walk_at "dn"))
  | ((with_reducible refine' sRetSt_s ?e0 ?_); (case e0 => exact rfl))
  | ((with_reducible refine' retStK_s ?e0 ?e1 ?_); (case e0 => exact rfl); (case e1 => walk_at "dn"))
  | ((with_reducible refine' iteT_s ?e0 ?_); (case e0 => (first | exact rfl | assumption)))
  | ((with_reducible refine' iteF_s ?e0 ?_); (case e0 => (first | exact rfl | assumption)))
  | ((with_reducible refine' isiStr_s ?e0 ?_); (case e0 => walk_at "dk"))
  | ((with_reducible refine' isiInt_s ?e0 ?_); (case e0 => walk_at "dk"))
  | ((with_reducible refine' isiDct_s ?e0 ?_); (case e0 => walk_at "dk"))
  | ((with_reducible refine' splK2_s ?e0 ?e1 ?_); (case e0 => decide); (case e1 => decide))
  | ((with_reducible refine' addS_s ?e0 ?_); (case e0 => walk_at "da"))
  | ((with_reducible refine' addL_s ?e0 ?_); (case e0 => walk_at "da"))
  | ((with_reducible refine' cbLenS_s ?e0 ?_); (case e0 => walk_at "da"))
  | ((with_reducible refine' slSK_s ?e0 ?_); (case e0 => walk_at "da"))
  | ((with_reducible refine' lcK_s ?e0 ?_); (case e0 => walk_at "dn"))
  | ((with_reducible refine' dcK_s ?e0 ?_); (case e0 => walk_at "dn"))
  | ((with_reducible refine' makeK_s ?e0 ?e1 ?e2 ?e3 ?e4 ?e5 ?_); (case e0 => exact rfl); (case e1 => walk_at "dn"); (case e2 => walk_at "dz"); (case e3 => exact rfl); (case e4 => exact rfl); (case e5 => walk_at "dn"))
  | ((with_reducible refine' ir1K_s ?e0 ?_); (case e0 => walk_at "da"))
  | ((with_reducible refine' ir2K_s ?e0 ?_); (case e0 => walk_at "da"))
  | ((with_reducible refine' fnRt_s ?e0 ?e1 ?_); (case e0 => walk_at "db"); (case e1 => walk_at "dn"))
  | ((with_reducible refine' fnNx_s ?e0 ?e1 ?_); (case e0 => walk_at "db"); (case e1 => walk_at "dn"))
  | ((with_reducible refine' fnRo_s ?e0 ?e1 ?_); (case e0 => walk_at "db"); (case e1 => walk_at "dn"))
  | ((with_reducible refine' fnRtO_s ?e0 ?e1 ?_); (case e0 => walk_at "db"); (case e1 => walk_at "dn")))
local macro_rules | `(tactic| walk_at "ds") => `(tactic| repeat walk_at "s1")
local macro_rules | `(tactic| walk_at "s2") => `(tactic| first
  | walk_at "s1"
  | with_reducible refine dMkV_s ?_
  | with_reducible refine mkV1_s ?_
  | with_reducible refine mkV2_s ?_
  | with_reducible refine dMkV0_s ?_
  | with_reducible refine dExG_s ?_
  | ((with_reducible refine' exG1_s ?e0 ?e1 ?_); (case e0 => assumption); (case e1 => exact rfl))
  | ((with_reducible refine' exG2_s ?e0 ?e1 ?_); (case e0 => assumption); (case e1 => exact rfl))
  | ((with_reducible refine' exG3_s ?e0 ?e1 ?_); (case e0 => assumption); (case e1 => exact rfl))
  | with_reducible refine dD1_s ?_
  | with_reducible refine dNeg_s ?_
  | ((with_reducible refine' sAugI_s ?e0 ?_); (case e0 => exact rfl))
  | ((with_reducible refine' augK_s ?e0 ?e1 ?_); (case e0 => exact rfl); (case e1 => walk_at "dn"))
  | with_reducible refine dIxR_s ?_
  | with_reducible refine lenR_s ?_
  | with_reducible refine dNeS_s ?_
  | ((with_reducible refine' dIxV_s ?e0 ?_); (case e0 => exact rfl))
  | ((with_reducible refine' ixVK_s ?e0 ?e1 ?_); (case e0 => exact rfl); (case e1 => exact rfl))
  | with_reducible refine sLPut_s ?_
  | ((with_reducible refine' lPutK_s ?e0 ?_); (case e0 => exact rfl))
  | ((with_reducible refine' lPutK2_s ?e0 ?e1 ?e2 ?_); (case e0 => exact rfl); (case e1 => exact rfl); (case e2 => walk_at "dn"))
  | ((with_reducible refine' sLAug_s ?e0 ?e1 ?e2 ?_); (case e0 => exact rfl); (case e1 => decide); (case e2 => exact rfl))
  | ((with_reducible refine' lAugK_s ?e0 ?e1 ?e2 ?_); (case e0 => exact rfl); (case e1 => exact rfl); (case e2 => walk_at "dn"))
  | with_reducible refine sRetL_s ?_
  | ((with_reducible refine' ixL_s ?e0 ?_); (case e0 => exact rfl))
  | ((with_reducible refine' addLb_s ?e0 ?_); (case e0 => exact rfl)))
local macro_rules | `(tactic| walk_at "dt") => `(tactic| repeat walk_at "s2")
local macro_rules | `(tactic| walk_at "s5") => `(tactic| first
  | walk_at "s2"
  | with_reducible refine dCatT_s ?_
  | with_reducible refine dInX_s ?_
  | with_reducible refine dInXV_s ?_
  | with_reducible refine dSortM_s ?_
  | with_reducible refine sortMK_s ?_
  | with_reducible refine dSortSet_s ?_
  | with_reducible refine iQ_s ?_
  | with_reducible refine iqL_s ?_
  | with_reducible refine iqT_s ?_
  | with_reducible refine dOwnE_s ?_
  | with_reducible refine minK_s ?_
  | with_reducible refine maxK_s ?_
  | with_reducible refine min3K_s ?_
  | ((with_reducible refine' ixT_s ?e0 ?_); (case e0 => exact rfl))
  | ((with_reducible refine' dEqV_s ?e0 ?_); (case e0 => exact rfl))
  | ((with_reducible refine' dLenV_s ?e0 ?_); (case e0 => exact rfl))
  | ((with_reducible refine' isiTup_s ?e0 ?_); (case e0 => exact kb7)))
local macro_rules | `(tactic| walk_at "dq") => `(tactic| repeat walk_at "s5")
def signB : D → Bool
  | .str t => t.cps.toList.all fun c => decide (c ∈ letters.cps.toList) || decide (c ∈ digits.cps.toList)
  | _ => false
theorem d_is_word {K : PySem.W.Frag} {a : Ad} : ∀ as Qd, as.length = 1 → (S_is_word a) as Qd → td_is_word K a (fnEnds as Qd) (as ++ List.replicate (2 - 1) .un) := by
  rintro as Qd hl ⟨s, rfl, hs, q⟩
  show td_is_word K a (fnEnds _ Qd) [.fz (.str s), .un]
  unfold td_is_word
  walk_at "ds"
  refine ite_s (fun h1 => ?_) (fun h1 => ?_)
  · walk_at "ds"
    have h1' : 1 ≤ s.length := by have := of_decide_eq_true h1; omega
    refine ite_s (fun h2 => ?_) (fun h2 => ?_)
    · walk_at "ds"
      have e : isWordB s = false := by
        have h2' : ¬ s.length ≤ 12 := fun z => by
          simp only [cLe, Bool.not_eq_true', decide_eq_false_iff_not] at h2
          omega
        simp [isWordB, h2']
      rw [e] at q
      exact q
    · walk_at "ds"
      have h2' : s.length ≤ 12 := by
        simp only [cLe, Bool.not_eq_false', decide_eq_true_eq] at h2
        omega
      refine lc_map (fun x => .bl (signB x)) rfl (fun x hx R r => ?_) (by rw [signs_len]; omega) ?_
      · obtain ⟨c, hc, rfl⟩ := mem_signs hx
        show dOrV _ _ [.fz (.str s), .fz (.str ⟨#[c]⟩)] R
        have r' : R (.bl (decide (c ∈ letters.cps.toList) || decide (c ∈ digits.cps.toList))) [.fz (.str s), .fz (.str ⟨#[c]⟩)] := by simpa [signB] using r
        walk_at "ds"
        refine ite_s (fun h3 => ?_) (fun h3 => ?_)
        · rw [show decide (c ∈ letters.cps.toList) = true from h3] at r'
          exact r'
        · rw [show decide (c ∈ letters.cps.toList) = false from h3] at r'
          walk_at "ds"
          exact r'
      · walk_at "ds"
        refine cbK_s ⟨(signsD s).map signB, by simp, rfl⟩ ?_
        walk_at "ds"
        have e : isWordB s = ((signsD s).map signB).all id := by
          simp [isWordB, h1', h2', signsD, signB, Function.comp_def, List.all_map]
        rw [e] at q
        exact q
  · walk_at "ds"
    have e : isWordB s = false := by
      have h1' : ¬ 1 ≤ s.length := fun z => by
        simp only [cLe, decide_eq_false_iff_not] at h1
        omega
      simp only [isWordB, h1', decide_false, Bool.false_and]
    rw [e] at q
    exact q
theorem d_is_identifier {K : PySem.W.Frag} {a : Ad} : ∀ as Qd, as.length = 1 → (S_is_identifier a) as Qd → td_is_identifier K a (fnEnds as Qd) (as ++ List.replicate (1 - 1) .un) := by
  rintro as Qd hl ⟨s, rfl, hs, q⟩
  show td_is_identifier K a (fnEnds _ Qd) [.fz (.str s)]
  unfold td_is_identifier
  walk_at "ds"
  refine ⟨s, rfl, hs, ?_⟩
  walk_at "ds"
  refine ite_s (fun hw => ?_) (fun hw => ?_)
  · walk_at "ds"
    obtain ⟨c, r, e⟩ : ∃ c r, s.cps.toList = c :: r := by
      cases h : s.cps.toList with
      | nil =>
        have : s.length = 0 := by show s.cps.size = 0; rw [← Array.length_toList, h]; rfl
        simp [isWordB, this] at hw
      | cons c r => exact ⟨c, r, rfl⟩
    refine ixS_s (c := c) hs (by rw [e]; exact atI_zero) ?_
    walk_at "ds"
    have q' : Qd (.bl (decide (c ∈ letters.cps.toList) && !inV (.str s) keptV)) [.fz (.str s)] := by simpa [isIdB, headB, hw, e] using q
    refine ite_s (fun h3 => ?_) (fun h3 => ?_)
    · rw [show decide (c ∈ letters.cps.toList) = true from h3] at q'
      walk_at "ds"
      refine ninT_s (b := inV (.str s) keptV) (by rfl) ?_
      walk_at "ds"
      exact q'
    · rw [show decide (c ∈ letters.cps.toList) = false from h3] at q'
      walk_at "ds"
      exact q'
  · walk_at "ds"
    have e : isIdB s = false := by simp [isIdB, hw]
    rw [e] at q
    exact q
theorem id_ok {s : Str} (h : isIdB s = true) : PyData.strOk s = true := by
  unfold isIdB isWordB at h
  simp only [Bool.and_eq_true, List.all_eq_true, Bool.or_eq_true, decide_eq_true_eq] at h
  unfold PyData.strOk
  rw [Array.all_eq_true_iff_forall_mem]
  intro c hc
  have hb : ∀ c ∈ letters.cps.toList ++ digits.cps.toList, c < 1114112 := by decide +kernel
  have := hb c (List.mem_append.mpr (h.1.1.2 c (by simpa using hc)))
  simpa using this
theorem id_len {s : Str} (h : isIdB s = true) : s.length ≤ 12 := by
  unfold isIdB isWordB at h
  simp only [Bool.and_eq_true, decide_eq_true_eq] at h
  exact h.1.1.1.2
theorem goodP.ok {p : Pr} (h : goodP p) : okP p := id_ok h.2.2
theorem good_ok {l : List Pr} (h : ∀ p ∈ l, goodP p) : ∀ p ∈ l, okP p := fun p hp => (h p hp).ok
end K01

namespace K01
open PySem L2 DL
open DS (Pr ltM)
local macro_rules | `(tactic| walk_at "dn") => `(tactic| first | (simp only [List.set_cons_zero, List.set_cons_succ, List.map_cons, List.map_nil, List.append_nil, List.nil_append, List.cons_append, rs_v, rs_o, pb_nil, pb_v, pb_o, back_nil, back_fz, back_un, back_ow, wp_nil, wp_cons, List.getElem?_cons_zero, List.getElem?_cons_succ, Option.getD_some, stP1, stP2, stP3]; exact rfl) | exact rfl)
local macro_rules | `(tactic| walk_at "db") => `(tactic| repeat first | exact bo_nil | refine bo_fz ?_ | refine bo_un ?_ | refine bo_ow ?_ | refine bo_fr ?_)
local macro_rules | `(tactic| walk_at "dk") => `(tactic| first | exact kb1 | exact kb2 | exact kb3 | exact kb4 | exact kb5 | exact kb6)
local macro_rules | `(tactic| walk_at "da") => `(tactic| first | assumption | omega | decide | (exact Or.inl ⟨by omega, by omega⟩) | (exact Or.inr ⟨by omega, by omega⟩) | (exact ⟨by decide, by decide⟩) | (exact ⟨by decide, by decide, by omega⟩))
local macro_rules | `(tactic| walk_at "s1") => `(tactic| first
  | with_reducible refine sNext_s ?_
  | with_reducible refine sSeq_s ?_
  | with_reducible refine sBrk_s ?_
  | with_reducible refine sCnt_s ?_
  | with_reducible refine sIf_s ?_
  | with_reducible refine sRet_s ?_
  | with_reducible refine sRetN_s ?_
  | with_reducible refine sDrop_s ?_
  | with_reducible refine sSet_s ?_
  | with_reducible refine sAsg_s ?_
  | with_reducible refine gsNil_s ?_
  | with_reducible refine gsCons_s ?_
  | with_reducible refine sSetL_s ?_
  | with_reducible refine sSetDD_s ?_
  | with_reducible refine sDPutV_s ?_
  | with_reducible refine dC_s ?_
  | with_reducible refine dBv_s ?_
  | with_reducible refine bvK_s ?_
  | with_reducible refine dNot_s ?_
  | with_reducible refine dAnd_s ?_
  | with_reducible refine dOr_s ?_
  | with_reducible refine dYes_s ?_
  | with_reducible refine dAndV_s ?_
  | with_reducible refine dOrV_s ?_
  | with_reducible refine dNotV_s ?_
  | with_reducible refine andVK_s ?_
  | with_reducible refine orVK_s ?_
  | with_reducible refine notVK_s ?_
  | with_reducible refine dIf_s ?_
  | with_reducible refine dIsN_s ?_
  | with_reducible refine aNil_s ?_
  | with_reducible refine aCons_s ?_
  | with_reducible refine dTup_s ?_
  | with_reducible refine dLst_s ?_
  | with_reducible refine dD0_s ?_
  | with_reducible refine dOp_s ?_
  | with_reducible refine dAdd_s ?_
  | with_reducible refine dSub_s ?_
  | with_reducible refine dMul_s ?_
  | with_reducible refine dMod_s ?_
  | with_reducible refine dDiv_s ?_
  | with_reducible refine dPow_s ?_
  | with_reducible refine dCmp_s ?_
  | with_reducible refine opI0_s ?_
  | with_reducible refine dEqG_s ?_
  | with_reducible refine dF_s ?_
  | with_reducible refine addI_s ?_
  | with_reducible refine inS_s ?_
  | with_reducible refine dChain_s ?_
  | with_reducible refine chK_s ?_
  | with_reducible refine chK2_s ?_
  | with_reducible refine dCB_s ?_
  | with_reducible refine cbInt_s ?_
  | with_reducible refine cbIntB_s ?_
  | with_reducible refine cbAbs_s ?_
  | with_reducible refine cbLenL_s ?_
  | with_reducible refine cbLenT_s ?_
  | with_reducible refine cbLenD_s ?_
  | with_reducible refine cbList_s ?_
  | with_reducible refine cbListT_s ?_
  | with_reducible refine cbTuple_s ?_
  | with_reducible refine cbTupleT_s ?_
  | with_reducible refine cbDict_s ?_
  | with_reducible refine cbListD_s ?_
  | with_reducible refine dSortS_s ?_
  | with_reducible refine dItems_s ?_
  | with_reducible refine itemsK_s ?_
  | with_reducible refine dDS2_s ?_
  | with_reducible refine dS2K_s ?_
  | with_reducible refine dSplit_s ?_
  | with_reducible refine splK_s ?_
  | with_reducible refine dJoin_s ?_
  | with_reducible refine joinK_s ?_
  | with_reducible refine oNone_s ?_
  | with_reducible refine oSome_s ?_
  | with_reducible refine ok'_s ?_
  | with_reducible refine dSlS_s ?_
  | with_reducible refine dSlL_s ?_
  | with_reducible refine slLK_s ?_
  | with_reducible refine dFld_s ?_
  | with_reducible refine mNil_s ?_
  | with_reducible refine mVal_s ?_
  | with_reducible refine dCall_s ?_
  | with_reducible refine dMeth_s ?_
  | with_reducible refine dMake_s ?_
  | with_reducible refine dOwnOp_s ?_
  | with_reducible refine sStS_s ?_
  | with_reducible refine sCallO_s ?_
  | with_reducible refine sFldS_s ?_
  | with_reducible refine sFor_s ?_
  | with_reducible refine forCons_s ?_
  | with_reducible refine forNil_s ?_
  | with_reducible refine iL_s ?_
  | with_reducible refine ilK_s ?_
  | with_reducible refine ilS_s ?_
  | with_reducible refine iT_s ?_
  | with_reducible refine itK_s ?_
  | with_reducible refine iS_s ?_
  | with_reducible refine isK_s ?_
  | with_reducible refine iK_s ?_
  | with_reducible refine ikK_s ?_
  | with_reducible refine iKV_s ?_
  | with_reducible refine ikvK_s ?_
  | with_reducible refine iR1_s ?_
  | with_reducible refine iR2_s ?_
  | with_reducible refine dLc_s ?_
  | with_reducible refine dDc_s ?_
  | with_reducible refine dInV_s ?_
  | with_reducible refine dEqDG_s ?_
  | with_reducible refine dIsB_s ?_
  | with_reducible refine isBF_s ?_
  | with_reducible refine isBT_s ?_
  | ((with_reducible refine' dVar_s ?e0 ?_); (case e0 => exact rfl))
  | ((with_reducible refine' dVarQf_s ?e0 ?_); (case e0 => exact rfl))
  | ((with_reducible refine' dVarQo_s ?e0 ?e1 ?_); (case e0 => exact rfl); (case e1 => walk_at "dn"))
  | ((with_reducible refine' dPopV_s ?e0 ?_); (case e0 => exact rfl))
  | ((with_reducible refine' setK_s ?e0 ?e1 ?_); (case e0 => exact rfl); (case e1 => walk_at "dn"))
  | ((with_reducible refine' gN_s ?e0 ?e1 ?_); (case e0 => exact rfl); (case e1 => walk_at "dn"))
  | ((with_reducible refine' gT_s ?e0 ?_); (case e0 => exact rfl))
  | ((with_reducible refine' setL_s ?e0 ?e1 ?e2 ?_); (case e0 => exact rfl); (case e1 => exact rfl); (case e2 => (intro p; walk_at "dn")))
  | ((with_reducible refine' sSetD0_s ?e0 ?e1 ?_); (case e0 => exact rfl); (case e1 => (intro p; walk_at "dn")))
  | ((with_reducible refine' setDD_s ?e0 ?e1 ?_); (case e0 => exact rfl); (case e1 => (intro p; walk_at "dn")))
  | ((with_reducible refine' appW_s ?e0 ?_); (case e0 => exact rfl))
  | ((with_reducible refine' dVarF_s ?e0 ?e1 ?_); (case e0 => exact rfl); (case e1 => walk_at "dn"))
  | ((with_reducible refine' dVarFD_s ?e0 ?e1 ?_); (case e0 => exact rfl); (case e1 => walk_at "dn"))
  | ((with_reducible refine' dPutK_s ?e0 ?_); (case e0 => exact rfl))
  | ((with_reducible refine' lenQ_s ?e0 ?_); (case e0 => exact rfl))
  | ((with_reducible refine' opI_s ?e0 ?_); (case e0 => walk_at "da"))
  | ((with_reducible refine' eqF_s ?e0 ?_); (case e0 => exact rfl))
  | ((with_reducible refine' eqT_s ?e0 ?_); (case e0 => exact rfl))
  | ((with_reducible refine' fldK_s ?e0 ?_); (case e0 => exact rfl))
  | ((with_reducible refine' mSlot_s ?e0 ?e1 ?_); (case e0 => exact rfl); (case e1 => trivial))
  | ((with_reducible refine' callK_s ?e0 ?e1 ?e2 ?e3 ?e4 ?_); (case e0 => exact rfl); (case e1 => walk_at "dn"); (case e2 => exact rfl); (case e3 => exact rfl); (case e4 => walk_at "dn"))
  | ((with_reducible refine' methK_s ?e0 ?_); (case e0 => exact rfl))
  | ((with_reducible refine' methK2_s ?e0 ?e1 ?e2 ?e3 ?e4 ?_); (case e0 => exact rfl); (case e1 => walk_at "dn"); (case e2 => exact rfl); (case e3 => exact rfl); (case e4 => walk_at "dn"))
  | ((with_reducible refine' putK_s ?e0 ?_); (case e0 => walk_at "dn"))
  | ((with_reducible refine' mkK_s ?e0 ?_); (case e0 => walk_at "dn"))
  | ((with_reducible refine' callOK_s ?e0 ?e1 ?e2 ?e3 ?e4 ?e5 ?_); (case e0 => exact rfl); (case e1 => walk_at "dn"); (case e2 => exact rfl); (case e3 => exact rfl); (case e4 => exact rfl); (case e5 => walk_at "dn"))
  | ((with_reducible refine' putOK_s ?e0 ?_); (case e0 => walk_at "dn"))
  | ((with_reducible refine' dStI_s ?e0 ?e1 ?_); (case e0 => exact rfl); (case e1 => exact rfl))
  | ((with_reducible refine' dStN_s ?e0 ?_); (case e0 => exact rfl))
  | ((with_reducible refine' stSK_s ?e0 ?e1 ?e2 ?e3 ?_); (case e0 => exact rfl); (case e1 => exact rfl); (case e2 => walk_at "dn"); (case e3 => walk_at "dn"))
  | ((with_reducible refine' sStG_s ?e0 ?e1 ?e2 ?_); (case e0 => exact rfl); (case e1 => exact rfl); (case e2 => exact rfl))
  | ((with_reducible refine' stGK_s ?e0 ?e1 ?e2 ?_); (case e0 => exact rfl); (case e1 => walk_at "dn"); (case e2 => walk_at "dn"))
  | ((with_reducible refine' sStPop_s ?e0 ?e1 ?_); (case e0 => exact rfl); (case e1 => walk_at "dn"))
  | ((with_reducible refine' sRetSt_s ?e0 ?_); (case e0 => exact rfl))
  | ((with_reducible refine' retStK_s ?e0 ?e1 ?_); (case e0 => exact rfl); (case e1 => walk_at "dn"))
  | ((with_reducible refine' iteT_s ?e0 ?_); (case e0 => (first | exact rfl | assumption)))
  | ((with_reducible refine' iteF_s ?e0 ?_); (case e0 => (first | exact rfl | assumption)))
  | ((with_reducible refine' isiStr_s ?e0 ?_); (case e0 => walk_at "dk"))
  | ((with_reducible refine' isiInt_s ?e0 ?_); (case e0 => walk_at "dk"))
  | ((with_reducible refine' isiDct_s ?e0 ?_); (case e0 => walk_at "dk"))
  | ((with_reducible refine' splK2_s ?e0 ?e1 ?_); (case e0 => decide); (case e1 => decide))
  | ((with_reducible refine' addS_s ?e0 ?_); (case e0 => walk_at "da"))
  | ((with_reducible refine' addL_s ?e0 ?_); (case e0 => walk_at "da"))
  | ((with_reducible refine' cbLenS_s ?e0 ?_); (case e0 => walk_at "da"))
  | ((with_reducible refine' slSK_s ?e0 ?_); (case e0 => walk_at "da"))
  | ((with_reducible refine' lcK_s ?e0 ?_); (case e0 => walk_at "dn"))
  | ((with_reducible refine' dcK_s ?e0 ?_); (case e0 => walk_at "dn"))
  | ((with_reducible refine' makeK_s ?e0 ?e1 ?e2 ?e3 ?e4 ?e5 ?_); (case e0 => exact rfl); (case e1 => walk_at "dn"); (case e2 => walk_at "dz"); (case e3 => exact rfl); (case e4 => exact rfl); (case e5 => walk_at "dn"))
  | ((with_reducible refine' ir1K_s ?e0 ?_); (case e0 => walk_at "da"))
  | ((with_reducible refine' ir2K_s ?e0 ?_); (case e0 => walk_at "da"))
  | ((with_reducible refine' fnRt_s ?e0 ?e1 ?_); (case e0 => walk_at "db"); (case e1 => walk_at "dn"))
  | ((with_reducible refine' fnNx_s ?e0 ?e1 ?_); (case e0 => walk_at "db"); (case e1 => walk_at "dn"))
  | ((with_reducible refine' fnRo_s ?e0 ?e1 ?_); (case e0 => walk_at "db"); (case e1 => walk_at "dn"))
  | ((with_reducible refine' fnRtO_s ?e0 ?e1 ?_); (case e0 => walk_at "db"); (case e1 => walk_at "dn")))
local macro_rules | `(tactic| walk_at "ds") => `(tactic| repeat walk_at "s1")
local macro_rules | `(tactic| walk_at "s2") => `(tactic| first
  | walk_at "s1"
  | with_reducible refine dMkV_s ?_
  | with_reducible refine mkV1_s ?_
  | with_reducible refine mkV2_s ?_
  | with_reducible refine dMkV0_s ?_
  | with_reducible refine dExG_s ?_
  | ((with_reducible refine' exG1_s ?e0 ?e1 ?_); (case e0 => assumption); (case e1 => exact rfl))
  | ((with_reducible refine' exG2_s ?e0 ?e1 ?_); (case e0 => assumption); (case e1 => exact rfl))
  | ((with_reducible refine' exG3_s ?e0 ?e1 ?_); (case e0 => assumption); (case e1 => exact rfl))
  | with_reducible refine dD1_s ?_
  | with_reducible refine dNeg_s ?_
  | ((with_reducible refine' sAugI_s ?e0 ?_); (case e0 => exact rfl))
  | ((with_reducible refine' augK_s ?e0 ?e1 ?_); (case e0 => exact rfl); (case e1 => walk_at "dn"))
  | with_reducible refine dIxR_s ?_
  | with_reducible refine lenR_s ?_
  | with_reducible refine dNeS_s ?_
  | ((with_reducible refine' dIxV_s ?e0 ?_); (case e0 => exact rfl))
  | ((with_reducible refine' ixVK_s ?e0 ?e1 ?_); (case e0 => exact rfl); (case e1 => exact rfl))
  | with_reducible refine sLPut_s ?_
  | ((with_reducible refine' lPutK_s ?e0 ?_); (case e0 => exact rfl))
  | ((with_reducible refine' lPutK2_s ?e0 ?e1 ?e2 ?_); (case e0 => exact rfl); (case e1 => exact rfl); (case e2 => walk_at "dn"))
  | ((with_reducible refine' sLAug_s ?e0 ?e1 ?e2 ?_); (case e0 => exact rfl); (case e1 => decide); (case e2 => exact rfl))
  | ((with_reducible refine' lAugK_s ?e0 ?e1 ?e2 ?_); (case e0 => exact rfl); (case e1 => exact rfl); (case e2 => walk_at "dn"))
  | with_reducible refine sRetL_s ?_
  | ((with_reducible refine' ixL_s ?e0 ?_); (case e0 => exact rfl))
  | ((with_reducible refine' addLb_s ?e0 ?_); (case e0 => exact rfl)))
local macro_rules | `(tactic| walk_at "dt") => `(tactic| repeat walk_at "s2")
local macro_rules | `(tactic| walk_at "s5") => `(tactic| first
  | walk_at "s2"
  | with_reducible refine dCatT_s ?_
  | with_reducible refine dInX_s ?_
  | with_reducible refine dInXV_s ?_
  | with_reducible refine dSortM_s ?_
  | with_reducible refine sortMK_s ?_
  | with_reducible refine dSortSet_s ?_
  | with_reducible refine iQ_s ?_
  | with_reducible refine iqL_s ?_
  | with_reducible refine iqT_s ?_
  | with_reducible refine dOwnE_s ?_
  | with_reducible refine minK_s ?_
  | with_reducible refine maxK_s ?_
  | with_reducible refine min3K_s ?_
  | ((with_reducible refine' ixT_s ?e0 ?_); (case e0 => exact rfl))
  | ((with_reducible refine' dEqV_s ?e0 ?_); (case e0 => exact rfl))
  | ((with_reducible refine' dLenV_s ?e0 ?_); (case e0 => exact rfl))
  | ((with_reducible refine' isiTup_s ?e0 ?_); (case e0 => exact kb7)))
local macro_rules | `(tactic| walk_at "dq") => `(tactic| repeat walk_at "s5")
local macro_rules | `(tactic| walk_at "s6") => `(tactic| first
  | walk_at "s5"
  | with_reducible refine dPart_s ?_
  | with_reducible refine partK_s ?_
  | with_reducible refine dCMeth_s ?_
  | with_reducible refine cmethK_s ?_
  | ((with_reducible refine' cmethK2_s ?e0 ?e1 ?e2 ?e3 ?e4 ?_); (case e0 => exact rfl); (case e1 => walk_at "dn"); (case e2 => exact rfl); (case e3 => exact rfl); (case e4 => walk_at "dn"))
  | ((with_reducible refine' dMakeL_s ?e0 ?_); (case e0 => exact rfl))
  | with_reducible refine dFmt_s ?_
  | with_reducible refine dJoined_s ?_
  | with_reducible refine jCons_s ?_
  | with_reducible refine jNil_s ?_
  | with_reducible refine dOwn1_s ?_
  | with_reducible refine own1K_s ?_
  | with_reducible refine dCallT_s ?_
  | ((with_reducible refine' callT1_s ?e0 ?e1 ?e2 ?e3 ?_); (case e0 => exact rfl); (case e1 => exact rfl); (case e2 => exact rfl); (case e3 => walk_at "dn"))
  | ((with_reducible refine' callT4_s ?e0 ?_); (case e0 => walk_at "dn"))
  | ((with_reducible refine' callT2_s ?e0 ?e1 ?e2 ?e3 ?_); (case e0 => exact rfl); (case e1 => exact rfl); (case e2 => exact rfl); (case e3 => walk_at "dn"))
  | ((with_reducible refine' callT3_s ?e0 ?_); (case e0 => walk_at "dn"))
  | with_reducible refine sSetLL_s ?_
  | ((with_reducible refine' setLL_s ?e0 ?e1 ?_); (case e0 => exact rfl); (case e1 => (intro p; walk_at "dn")))
  | ((with_reducible refine' sClear_s ?e0 ?e1 ?_); (case e0 => exact rfl); (case e1 => walk_at "dn"))
  | with_reducible refine dCMethS_s ?_
  | with_reducible refine cmethSK_s ?_
  | ((with_reducible refine' cmethSK2_s ?e0 ?_); (case e0 => exact rfl))
  | with_reducible refine dLstRev_s ?_
  | with_reducible refine lstRevK_s ?_
  | with_reducible refine dTupRev_s ?_
  | with_reducible refine tupRevK_s ?_
  | with_reducible refine dInOwn_s ?_
  | with_reducible refine dNinOwn_s ?_
  | with_reducible refine inOwnK_s ?_)
local macro_rules | `(tactic| walk_at "dr") => `(tactic| repeat walk_at "s6")
local macro_rules | `(tactic| walk_at "dz") => `(tactic| (simp [nf]; done))
theorem d_is_pair {K : PySem.W.Frag} {a : Ad} : ∀ as Qd, as.length = 1 → (S_is_pair a) as Qd → td_is_pair K a (fnEnds as Qd) (as ++ List.replicate (3 - 1) .un) := by
  rintro as Qd hl ⟨p, rfl, ⟨h0, h1, h2⟩, q⟩
  show td_is_pair K a (fnEnds _ Qd) [.fz (.tup [.int p.1, .str p.2]), .un, .un]
  unfold td_is_pair
  walk_at "dq"
  have e0 : cLe 0 p.1 = true := by simpa [cLe] using h0
  have e1 : cLt p.1 (10 ^ 60) = true := by simpa [cLt] using h1
  rw [e0]
  walk_at "dq"
  rw [e1]
  walk_at "dq"
  refine ⟨p.2, rfl, by have := id_len h2; omega, ?_⟩
  rw [h2]
  walk_at "dq"
  exact q
theorem d_in_order {K : PySem.W.Frag} {a : Ad} : ∀ as Qd, as.length = 1 → (S_in_orderQ K a) as Qd → td_in_order K a (fnEnds as Qd) (as ++ List.replicate (2 - 1) .un) := by
  rintro as Qd hl ⟨s, ps, rfl, ⟨hs, hg, hf⟩, q⟩
  show td_in_order K a (fnEnds _ Qd) [s, .un]
  unfold td_in_order
  walk_at "dr"
  rcases hs with ⟨d, rfl, hd⟩ | ⟨v, rfl⟩
  · refine .inl ⟨d, ps.map pairD, rfl, hd, ?_⟩
    refine for_inv (fun ds env => ∃ (rs : List Pr) (s1 : SD (nf a)), ds = rs.map pairD ∧ (∀ p ∈ rs, p ∈ ps) ∧ env = [.fz d, s1]) ?_ ?_ _ _ ⟨ps, .un, rfl, fun p h => h, rfl⟩
    · rintro y ys env R ⟨rs, s1, hds, hin, rfl⟩ hR
      match rs, hds with
      | p :: rs, hds =>
        obtain ⟨rfl, rfl⟩ := List.cons.inj hds
        walk_at "dr"
        refine ⟨p, rfl, hg p (hin p List.mem_cons_self), ?_⟩
        walk_at "dr"
        exact hR _ ⟨rs, _, rfl, fun r hr => hin r (List.mem_cons_of_mem _ hr), rfl⟩
    · rintro env ⟨rs, s1, hds, hin, rfl⟩
      walk_at "dr"
      refine ⟨ps, ?_, hf, ?_⟩
      · rcases hd with rfl | rfl
        · exact .inl rfl
        · exact .inr (.inl rfl)
      walk_at "dr"
      exact q
  · refine .inr ⟨v, ps.map pairD, rfl, ?_⟩
    refine forO_inv (fun ds env => ∃ (rs : List Pr) (s1 : SD (nf a)), ds = rs.map pairD ∧ (∀ p ∈ rs, p ∈ ps) ∧ env = [.ow v (lstA K (nf a) (ps.map pairD)), s1]) (fun xs env ⟨rs, s1, _, _, e⟩ => by rw [e]; rfl) ?_ ?_ _ _ ⟨ps, .un, rfl, fun p h => h, rfl⟩
    · rintro y ys env R ⟨rs, s1, hds, hin, rfl⟩ hR
      match rs, hds with
      | p :: rs, hds =>
        obtain ⟨rfl, rfl⟩ := List.cons.inj hds
        walk_at "dr"
        refine ⟨p, rfl, hg p (hin p List.mem_cons_self), ?_⟩
        walk_at "dr"
        exact hR _ ⟨rs, _, rfl, fun r hr => hin r (List.mem_cons_of_mem _ hr), rfl⟩
    · rintro env ⟨rs, s1, hds, hin, rfl⟩
      walk_at "dr"
      refine ⟨ps, .inr (.inr ⟨v, rfl⟩), hf, ?_⟩
      walk_at "dr"
      exact q
theorem seqS_set {K : PySem.W.Frag} {a : Ad} {s : SD (nf a)} {ps : List Pr} (h : SeqS K a s ps) : isSet s := by
  rcases h.1 with ⟨d, rfl, _⟩ | ⟨v, rfl⟩ <;> trivial
theorem d_Captures_init {K : PySem.W.Frag} {a : Ad} : ∀ as Qd, as.length = 2 → (S_Captures_initQ K a) as Qd → td_Captures_init K a (fnEnds as Qd) (as ++ List.replicate (2 - 2) .un) := by
  rintro as Qd hl ⟨v, s, ps, rfl, hs, q⟩
  show td_Captures_init K a (fnEnds _ Qd) [.ow v (insA K (nf a) a.C_Captures []), s]
  unfold td_Captures_init
  rcases id hs.1 with ⟨d, rfl, hd⟩ | ⟨v2, rfl⟩
  all_goals
    walk_at "dr"
    refine ⟨_, ps, rfl, hs, ?_⟩
    walk_at "dr"
    refine fldLast_s rfl rfl (by decide) (by simp [nf]) rfl ?_
    walk_at "dr"
    exact q
theorem d_Captures_of {K : PySem.W.Frag} {a : Ad} : ∀ as Qd, as.length = 2 → (S_Captures_of a) as Qd → td_Captures_of K a (fnEnds as Qd) (as ++ List.replicate (2 - 2) .un) := by
  rintro as Qd hl ⟨ps, rfl, hg, hf, q⟩
  show td_Captures_of K a (fnEnds _ Qd) [.fz (.cls a.C_Captures), .fz (.tup (ps.map pairD))]
  unfold td_Captures_of
  walk_at "dr"
  intro y1
  refine ⟨.ref y1, _, ps, rfl, ⟨.inl ⟨_, rfl, .inr rfl⟩, hg, hf⟩, ?_⟩
  walk_at "dr"
  exact q
theorem d_Captures_len {K : PySem.W.Frag} {a : Ad} : ∀ as Qd, as.length = 1 → (S_Captures_len a) as Qd → td_Captures_len K a (fnEnds as Qd) (as ++ List.replicate (1 - 1) .un) := by
  rintro as Qd hl ⟨l, rfl, hn, q⟩
  show td_Captures_len K a (fnEnds _ Qd) [.fz (capD a l)]
  unfold td_Captures_len
  walk_at "dr"
  rw [List.length_map]
  exact q
theorem d_Captures_bool {K : PySem.W.Frag} {a : Ad} : ∀ as Qd, as.length = 1 → (S_Captures_bool a) as Qd → td_Captures_bool K a (fnEnds as Qd) (as ++ List.replicate (1 - 1) .un) := by
  rintro as Qd hl ⟨l, rfl, hn, q⟩
  show td_Captures_bool K a (fnEnds _ Qd) [.fz (capD a l)]
  unfold td_Captures_bool
  walk_at "dr"
  rw [List.length_map]
  exact q
def numB (n : Int) : D → Bool
  | .tup [.int i, .str _] => decide (i = n)
  | _ => false
def sndD : D → D
  | .tup [_, x] => x
  | _ => .non
theorem at_map (l : List Pr) (n : Int) : ((l.map pairD).filter (numB n)).map sndD = atL l n := by
  unfold atL
  rw [List.filter_map, List.map_map]
  rfl
theorem d_Captures_at {K : PySem.W.Frag} {a : Ad} : ∀ as Qd, as.length = 2 → (S_Captures_at a) as Qd → td_Captures_at K a (fnEnds as Qd) (as ++ List.replicate (3 - 2) .un) := by
  rintro as Qd hl ⟨l, n, rfl, hn, q⟩
  show td_Captures_at K a (fnEnds _ Qd) [.fz (capD a l), .fz (.int n), .un]
  unfold td_Captures_at
  walk_at "dr"
  refine lc_pure (numB n) sndD rfl (fun x hx R r => ?_) (fun x hx _ R r => ?_) (by simp; omega) ?_
  · obtain ⟨p, hp, rfl⟩ := List.mem_map.mp hx
    simp only [List.set_cons_zero, List.set_cons_succ] at r ⊢
    rw [show pairD p = .tup [.int p.1, .str p.2] from rfl] at r ⊢
    walk_at "dr"
    exact r
  · obtain ⟨p, hp, rfl⟩ := List.mem_map.mp hx
    simp only [List.set_cons_zero, List.set_cons_succ] at r ⊢
    rw [show pairD p = .tup [.int p.1, .str p.2] from rfl] at r ⊢
    walk_at "dr"
    exact r
  rw [List.nil_append, at_map]
  walk_at "dr"
  exact q
end K01

namespace K01
open PySem L2 DL
local macro_rules | `(tactic| walk_at "dn") => `(tactic| first | (simp only [List.set_cons_zero, List.set_cons_succ, List.map_cons, List.map_nil, List.append_nil, List.nil_append, List.cons_append, rs_v, rs_o, pb_nil, pb_v, pb_o, back_nil, back_fz, back_un, back_ow, wp_nil, wp_cons, List.getElem?_cons_zero, List.getElem?_cons_succ, Option.getD_some, stP1, stP2, stP3]; exact rfl) | exact rfl)
local macro_rules | `(tactic| walk_at "db") => `(tactic| repeat first | exact bo_nil | refine bo_fz ?_ | refine bo_un ?_ | refine bo_ow ?_ | refine bo_fr ?_)
local macro_rules | `(tactic| walk_at "dk") => `(tactic| first | exact kb1 | exact kb2 | exact kb3 | exact kb4 | exact kb5 | exact kb6)
local macro_rules | `(tactic| walk_at "da") => `(tactic| first | assumption | omega | decide | (exact Or.inl ⟨by omega, by omega⟩) | (exact Or.inr ⟨by omega, by omega⟩) | (exact ⟨by decide, by decide⟩) | (exact ⟨by decide, by decide, by omega⟩))
local macro_rules | `(tactic| walk_at "s1") => `(tactic| first
  | with_reducible refine sNext_s ?_
  | with_reducible refine sSeq_s ?_
  | with_reducible refine sBrk_s ?_
  | with_reducible refine sCnt_s ?_
  | with_reducible refine sIf_s ?_
  | with_reducible refine sRet_s ?_
  | with_reducible refine sRetN_s ?_
  | with_reducible refine sDrop_s ?_
  | with_reducible refine sSet_s ?_
  | with_reducible refine sAsg_s ?_
  | with_reducible refine gsNil_s ?_
  | with_reducible refine gsCons_s ?_
  | with_reducible refine sSetL_s ?_
  | with_reducible refine sSetDD_s ?_
  | with_reducible refine sDPutV_s ?_
  | with_reducible refine dC_s ?_
  | with_reducible refine dBv_s ?_
  | with_reducible refine bvK_s ?_
  | with_reducible refine dNot_s ?_
  | with_reducible refine dAnd_s ?_
  | with_reducible refine dOr_s ?_
  | with_reducible refine dYes_s ?_
  | with_reducible refine dAndV_s ?_
  | with_reducible refine dOrV_s ?_
  | with_reducible refine dNotV_s ?_
  | with_reducible refine andVK_s ?_
  | with_reducible refine orVK_s ?_
  | with_reducible refine notVK_s ?_
  | with_reducible refine dIf_s ?_
  | with_reducible refine dIsN_s ?_
  | with_reducible refine aNil_s ?_
  | with_reducible refine aCons_s ?_
  | with_reducible refine dTup_s ?_
  | with_reducible refine dLst_s ?_
  | with_reducible refine dD0_s ?_
  | with_reducible refine dOp_s ?_
  | with_reducible refine dAdd_s ?_
  | with_reducible refine dSub_s ?_
  | with_reducible refine dMul_s ?_
  | with_reducible refine dMod_s ?_
  | with_reducible refine dDiv_s ?_
  | with_reducible refine dPow_s ?_
  | with_reducible refine dCmp_s ?_
  | with_reducible refine opI0_s ?_
  | with_reducible refine dEqG_s ?_
  | with_reducible refine dF_s ?_
  | with_reducible refine addI_s ?_
  | with_reducible refine inS_s ?_
  | with_reducible refine dChain_s ?_
  | with_reducible refine chK_s ?_
  | with_reducible refine chK2_s ?_
  | with_reducible refine dCB_s ?_
  | with_reducible refine cbInt_s ?_
  | with_reducible refine cbIntB_s ?_
  | with_reducible refine cbAbs_s ?_
  | with_reducible refine cbLenL_s ?_
  | with_reducible refine cbLenT_s ?_
  | with_reducible refine cbLenD_s ?_
  | with_reducible refine cbList_s ?_
  | with_reducible refine cbListT_s ?_
  | with_reducible refine cbTuple_s ?_
  | with_reducible refine cbTupleT_s ?_
  | with_reducible refine cbDict_s ?_
  | with_reducible refine cbListD_s ?_
  | with_reducible refine dSortS_s ?_
  | with_reducible refine dItems_s ?_
  | with_reducible refine itemsK_s ?_
  | with_reducible refine dDS2_s ?_
  | with_reducible refine dS2K_s ?_
  | with_reducible refine dSplit_s ?_
  | with_reducible refine splK_s ?_
  | with_reducible refine dJoin_s ?_
  | with_reducible refine joinK_s ?_
  | with_reducible refine oNone_s ?_
  | with_reducible refine oSome_s ?_
  | with_reducible refine ok'_s ?_
  | with_reducible refine dSlS_s ?_
  | with_reducible refine dSlL_s ?_
  | with_reducible refine slLK_s ?_
  | with_reducible refine dFld_s ?_
  | with_reducible refine mNil_s ?_
  | with_reducible refine mVal_s ?_
  | with_reducible refine dCall_s ?_
  | with_reducible refine dMeth_s ?_
  | with_reducible refine dMake_s ?_
  | with_reducible refine dOwnOp_s ?_
  | with_reducible refine sStS_s ?_
  | with_reducible refine sCallO_s ?_
  | with_reducible refine sFldS_s ?_
  | with_reducible refine sFor_s ?_
  | with_reducible refine forCons_s ?_
  | with_reducible refine forNil_s ?_
  | with_reducible refine iL_s ?_
  | with_reducible refine ilK_s ?_
  | with_reducible refine ilS_s ?_
  | with_reducible refine iT_s ?_
  | with_reducible refine itK_s ?_
  | with_reducible refine iS_s ?_
  | with_reducible refine isK_s ?_
  | with_reducible refine iK_s ?_
  | with_reducible refine ikK_s ?_
  | with_reducible refine iKV_s ?_
  | with_reducible refine ikvK_s ?_
  | with_reducible refine iR1_s ?_
  | with_reducible refine iR2_s ?_
  | with_reducible refine dLc_s ?_
  | with_reducible refine dDc_s ?_
  | with_reducible refine dInV_s ?_
  | with_reducible refine dEqDG_s ?_
  | with_reducible refine dIsB_s ?_
  | with_reducible refine isBF_s ?_
  | with_reducible refine isBT_s ?_
  | ((with_reducible refine' dVar_s ?e0 ?_); (case e0 => exact rfl))
  | ((with_reducible refine' dVarQf_s ?e0 ?_); (case e0 => exact rfl))
  | ((with_reducible refine' dVarQo_s ?e0 ?e1 ?_); (case e0 => exact rfl); (case e1 => walk_at "dn"))
  | ((with_reducible refine' dPopV_s ?e0 ?_); (case e0 => exact rfl))
  | ((with_reducible refine' setK_s ?e0 ?e1 ?_); (case e0 => exact rfl); (case e1 => walk_at "dn"))
  | ((with_reducible refine' gN_s ?e0 ?e1 ?_); (case e0 => exact rfl); (case e1 => walk_at "dn"))
  | ((with_reducible refine' gT_s ?e0 ?_); (case e0 => exact rfl))
  | ((with_reducible refine' setL_s ?e0 ?e1 ?e2 ?_); (case e0 => exact rfl); (case e1 => exact rfl); (case e2 => (intro p; walk_at "dn")))
  | ((with_reducible refine' sSetD0_s ?e0 ?e1 ?_); (case e0 => exact rfl); (case e1 => (intro p; walk_at "dn")))
  | ((with_reducible refine' setDD_s ?e0 ?e1 ?_); (case e0 => exact rfl); (case e1 => (intro p; walk_at "dn")))
  | ((with_reducible refine' appW_s ?e0 ?_); (case e0 => exact rfl))
  | ((with_reducible refine' dVarF_s ?e0 ?e1 ?_); (case e0 => exact rfl); (case e1 => walk_at "dn"))
  | ((with_reducible refine' dVarFD_s ?e0 ?e1 ?_); (case e0 => exact rfl); (case e1 => walk_at "dn"))
  | ((with_reducible refine' dPutK_s ?e0 ?_); (case e0 => exact rfl))
  | ((with_reducible refine' lenQ_s ?e0 ?_); (case e0 => exact rfl))
  | ((with_reducible refine' opI_s ?e0 ?_); (case e0 => walk_at "da"))
  | ((with_reducible refine' eqF_s ?e0 ?_); (case e0 => exact rfl))
  | ((with_reducible refine' eqT_s ?e0 ?_); (case e0 => exact rfl))
  | ((with_reducible refine' fldK_s ?e0 ?_); (case e0 => exact rfl))
  | ((with_reducible refine' mSlot_s ?e0 ?e1 ?_); (case e0 => exact rfl); (case e1 => trivial))
  | ((with_reducible refine' callK_s ?e0 ?e1 ?e2 ?e3 ?e4 ?_); (case e0 => exact rfl); (case e1 => walk_at "dn"); (case e2 => exact rfl); (case e3 => exact rfl); (case e4 => walk_at "dn"))
  | ((with_reducible refine' methK_s ?e0 ?_); (case e0 => exact rfl))
  | ((with_reducible refine' methK2_s ?e0 ?e1 ?e2 ?e3 ?e4 ?_); (case e0 => exact rfl); (case e1 => walk_at "dn"); (case e2 => exact rfl); (case e3 => exact rfl); (case e4 => walk_at "dn"))
  | ((with_reducible refine' putK_s ?e0 ?_); (case e0 => walk_at "dn"))
  | ((with_reducible refine' mkK_s ?e0 ?_); (case e0 => walk_at "dn"))
  | ((with_reducible refine' callOK_s ?e0 ?e1 ?e2 ?e3 ?e4 ?e5 ?_); (case e0 => exact rfl); (case e1 => walk_at "dn"); (case e2 => exact rfl); (case e3 => exact rfl); (case e4 => exact rfl); (case e5 => walk_at "dn"))
  | ((with_reducible refine' putOK_s ?e0 ?_); (case e0 => walk_at "dn"))
  | ((with_reducible refine' dStI_s ?e0 ?e1 ?_); (case e0 => exact rfl); (case e1 => exact rfl))
  | ((with_reducible refine' dStN_s ?e0 ?_); (case e0 => exact rfl))
  | ((with_reducible refine' stSK_s ?e0 ?e1 ?e2 ?e3 ?_); (case e0 => exact rfl); (case e1 => exact rfl); (case e2 => walk_at "dn"); (case e3 => walk_at "dn"))
  | ((with_reducible refine' sStG_s ?e0 ?e1 ?e2 ?_); (case e0 => exact rfl); (case e1 => exact rfl); (case e2 => exact rfl))
  | ((with_reducible refine' stGK_s ?e0 ?e1 ?e2 ?_); (case e0 => exact rfl); (case e1 => walk_at "dn"); (case e2 => walk_at "dn"))
  | ((with_reducible refine' sStPop_s ?e0 ?e1 ?_); (case e0 => exact rfl); (case e1 => walk_at "dn"))
  | ((with_reducible refine' sRetSt_s ?e0 ?_); (case e0 => exact rfl))
  | ((with_reducible refine' retStK_s ?e0 ?e1 ?_); (case e0 => exact rfl); (case e1 => walk_at "dn"))
  | ((with_reducible refine' iteT_s ?e0 ?_); (case e0 => (first | exact rfl | assumption)))
  | ((with_reducible refine' iteF_s ?e0 ?_); (case e0 => (first | exact rfl | assumption)))
  | ((with_reducible refine' isiStr_s ?e0 ?_); (case e0 => walk_at "dk"))
  | ((with_reducible refine' isiInt_s ?e0 ?_); (case e0 => walk_at "dk"))
  | ((with_reducible refine' isiDct_s ?e0 ?_); (case e0 => walk_at "dk"))
  | ((with_reducible refine' splK2_s ?e0 ?e1 ?_); (case e0 => decide); (case e1 => decide))
  | ((with_reducible refine' addS_s ?e0 ?_); (case e0 => walk_at "da"))
  | ((with_reducible refine' addL_s ?e0 ?_); (case e0 => walk_at "da"))
  | ((with_reducible refine' cbLenS_s ?e0 ?_); (case e0 => walk_at "da"))
  | ((with_reducible refine' slSK_s ?e0 ?_); (case e0 => walk_at "da"))
  | ((with_reducible refine' lcK_s ?e0 ?_); (case e0 => walk_at "dn"))
  | ((with_reducible refine' dcK_s ?e0 ?_); (case e0 => walk_at "dn"))
  | ((with_reducible refine' makeK_s ?e0 ?e1 ?e2 ?e3 ?e4 ?e5 ?_); (case e0 => exact rfl); (case e1 => walk_at "dn"); (case e2 => walk_at "dz"); (case e3 => exact rfl); (case e4 => exact rfl); (case e5 => walk_at "dn"))
  | ((with_reducible refine' ir1K_s ?e0 ?_); (case e0 => walk_at "da"))
  | ((with_reducible refine' ir2K_s ?e0 ?_); (case e0 => walk_at "da"))
  | ((with_reducible refine' fnRt_s ?e0 ?e1 ?_); (case e0 => walk_at "db"); (case e1 => walk_at "dn"))
  | ((with_reducible refine' fnNx_s ?e0 ?e1 ?_); (case e0 => walk_at "db"); (case e1 => walk_at "dn"))
  | ((with_reducible refine' fnRo_s ?e0 ?e1 ?_); (case e0 => walk_at "db"); (case e1 => walk_at "dn"))
  | ((with_reducible refine' fnRtO_s ?e0 ?e1 ?_); (case e0 => walk_at "db"); (case e1 => walk_at "dn")))
local macro_rules | `(tactic| walk_at "ds") => `(tactic| repeat walk_at "s1")
local macro_rules | `(tactic| walk_at "s2") => `(tactic| first
  | walk_at "s1"
  | with_reducible refine dMkV_s ?_
  | with_reducible refine mkV1_s ?_
  | with_reducible refine mkV2_s ?_
  | with_reducible refine dMkV0_s ?_
  | with_reducible refine dExG_s ?_
  | ((with_reducible refine' exG1_s ?e0 ?e1 ?_); (case e0 => assumption); (case e1 => exact rfl))
  | ((with_reducible refine' exG2_s ?e0 ?e1 ?_); (case e0 => assumption); (case e1 => exact rfl))
  | ((with_reducible refine' exG3_s ?e0 ?e1 ?_); (case e0 => assumption); (case e1 => exact rfl))
  | with_reducible refine dD1_s ?_
  | with_reducible refine dNeg_s ?_
  | ((with_reducible refine' sAugI_s ?e0 ?_); (case e0 => exact rfl))
  | ((with_reducible refine' augK_s ?e0 ?e1 ?_); (case e0 => exact rfl); (case e1 => walk_at "dn"))
  | with_reducible refine dIxR_s ?_
  | with_reducible refine lenR_s ?_
  | with_reducible refine dNeS_s ?_
  | ((with_reducible refine' dIxV_s ?e0 ?_); (case e0 => exact rfl))
  | ((with_reducible refine' ixVK_s ?e0 ?e1 ?_); (case e0 => exact rfl); (case e1 => exact rfl))
  | with_reducible refine sLPut_s ?_
  | ((with_reducible refine' lPutK_s ?e0 ?_); (case e0 => exact rfl))
  | ((with_reducible refine' lPutK2_s ?e0 ?e1 ?e2 ?_); (case e0 => exact rfl); (case e1 => exact rfl); (case e2 => walk_at "dn"))
  | ((with_reducible refine' sLAug_s ?e0 ?e1 ?e2 ?_); (case e0 => exact rfl); (case e1 => decide); (case e2 => exact rfl))
  | ((with_reducible refine' lAugK_s ?e0 ?e1 ?e2 ?_); (case e0 => exact rfl); (case e1 => exact rfl); (case e2 => walk_at "dn"))
  | with_reducible refine sRetL_s ?_
  | ((with_reducible refine' ixL_s ?e0 ?_); (case e0 => exact rfl))
  | ((with_reducible refine' addLb_s ?e0 ?_); (case e0 => exact rfl)))
local macro_rules | `(tactic| walk_at "dt") => `(tactic| repeat walk_at "s2")
local macro_rules | `(tactic| walk_at "s5") => `(tactic| first
  | walk_at "s2"
  | with_reducible refine dCatT_s ?_
  | with_reducible refine dInX_s ?_
  | with_reducible refine dInXV_s ?_
  | with_reducible refine dSortM_s ?_
  | with_reducible refine sortMK_s ?_
  | with_reducible refine dSortSet_s ?_
  | with_reducible refine iQ_s ?_
  | with_reducible refine iqL_s ?_
  | with_reducible refine iqT_s ?_
  | with_reducible refine dOwnE_s ?_
  | with_reducible refine minK_s ?_
  | with_reducible refine maxK_s ?_
  | with_reducible refine min3K_s ?_
  | ((with_reducible refine' ixT_s ?e0 ?_); (case e0 => exact rfl))
  | ((with_reducible refine' dEqV_s ?e0 ?_); (case e0 => exact rfl))
  | ((with_reducible refine' dLenV_s ?e0 ?_); (case e0 => exact rfl))
  | ((with_reducible refine' isiTup_s ?e0 ?_); (case e0 => exact kb7)))
local macro_rules | `(tactic| walk_at "dq") => `(tactic| repeat walk_at "s5")
theorem cdivT {i m : Int} (h : 0 < m) (h2 : m ≤ 10 ^ 60) : CDivW i m := by
  refine ⟨h, ?_⟩
  have h3 : m.natAbs < 2 ^ 200 := by
    have e : ((m.natAbs : Nat) : Int) = m := Int.natAbs_of_nonneg (Int.le_of_lt h)
    have h5 : ((m.natAbs : Nat) : Int) < ((2 ^ 200 : Nat) : Int) := by
      rw [e]
      exact Int.lt_of_le_of_lt h2 (by decide)
    exact Int.ofNat_lt.mp h5
  have h6 : m.natAbs.log2 < 200 := (Nat.log2_lt (by omega)).mpr h3
  omega
theorem modT {i m : Int} (h : 0 < m) : 0 ≤ i % m ∧ i % m < m := ⟨Int.emod_nonneg _ (by omega), Int.emod_lt_of_pos _ h⟩
theorem d_law_tape {K : PySem.W.Frag} {a : Ad} : ∀ as Qd, as.length = 2 → (S_law_tape K a) as Qd → td_law_tape K a (fnEndsO as Qd) (as ++ List.replicate (3 - 2) .un) := by
  rintro as Qd hl ⟨ns, k, rfl, hk, hk2, q⟩
  show td_law_tape K a (fnEndsO _ Qd) [.fz (.scr ns), .fz (.int k), .un]
  have fin : ∀ c : Int, sRetL K (aCons (dVar 2) (aCons (dC (.int 0)) (aCons (dCB fInt (aCons (dChain cLe cLt (dC (.int 0)) (dVar 2) (dPow (dC (.int 10)) (dC (.int 18)))) aNil)) (aCons (dVar 1) aNil)))) (fnEndsO [.fz (.scr ns), .fz (.int k)] Qd) [.fz (.scr ns), .fz (.int k), .fz (.int c)] := by
    intro c
    walk_at "dt"
    refine ite_s (fun hc => ?_) (fun hc => ?_)
    · walk_at "dt"
      intro p
      walk_at "dt"
      refine q _ _ ⟨c, 0, _, k, rfl, ?_, by decide, by decide, hk, hk2⟩
      have h0 : 0 ≤ c := by simpa [cLe] using hc
      by_cases h1 : c < 10 ^ 18
      · right
        refine ⟨?_, h0, h1⟩
        show (if cLt c (10 ^ (18 : Int).toNat) = true then (1 : Int) else 0) = 1
        rw [if_pos]
        simpa [cLt] using h1
      · left
        show (if cLt c (10 ^ (18 : Int).toNat) = true then (1 : Int) else 0) = 0
        rw [if_neg]
        simpa [cLt] using h1
    · walk_at "dt"
      intro p
      walk_at "dt"
      exact q _ _ ⟨c, 0, _, k, rfl, .inl rfl, by decide, by decide, hk, hk2⟩
  unfold td_law_tape
  walk_at "dt"
  refine ite_s (fun hc => ?_) (fun hc => ?_)
  · walk_at "dt"
    have h1 : k < ns.length := by simpa [cLt] using hc
    have h2 : k.toNat < ns.length := by omega
    refine opK_s (z := .int ns[k.toNat]) ⟨ns, k, ns[k.toNat], rfl, rfl, ?_, rfl⟩ ?_
    · unfold atI ixN
      simp [hk, h1, h2]
    · refine aNil_s ?_
      refine cbInt_s ?_
      refine setK_s rfl rfl ?_
      exact fin _
  · refine sNext_s ?_
    exact fin 0
theorem prime_at {j : Int} (h0 : 0 ≤ j) (h1 : j < 5) : ∃ p : Int, ixD (.lst [.int 2147483647, .int 2147483629, .int 2147483587, .int 2147483579, .int 2147483563]) (.int j) = some (.int p) ∧ 0 < p := by
  have h : j = 0 ∨ j = 1 ∨ j = 2 ∨ j = 3 ∨ j = 4 := by omega
  rcases h with rfl | rfl | rfl | rfl | rfl <;> exact ⟨_, rfl, by decide⟩
theorem d_law_draw {K : PySem.W.Frag} {a : Ad} : ∀ as Qd, as.length = 2 → (S_law_draw K a) as Qd → td_law_draw K a (fnEnds as Qd) (as ++ List.replicate (6 - 2) .un) := by
  rintro as Qd hl ⟨v, s, b, m, rfl, ⟨c, n, f, k, rfl, hf, hn, hnb, hk, hk2⟩, hb, hm, hm2, q⟩
  show td_law_draw K a (fnEnds _ Qd) [.ow v (lstA K (nf a) [.int c, .int n, .int f, .int k]), .fz (.int m), .un, .un, .un, .un]
  unfold td_law_draw
  walk_at "dt"
  refine ite_s (fun hc => ?_) (fun hc => ?_)
  · walk_at "dt"
    refine opI_s (cdivT hm hm2) ?_
    walk_at "dt"
    have hf0 : f = 0 := by simpa using hc
    exact q _ _ ⟨_, _, f, k, rfl, .inl hf0, by omega, by omega, hk, hk2⟩ (modT hm).1 (modT hm).2
  · have hf1 : f = 1 ∧ 0 ≤ c ∧ c < 10 ^ 18 := by
      rcases hf with h | h
      · exact absurd h (by simpa using hc)
      · exact h
    walk_at "dt"
    obtain ⟨p, ep, hp⟩ := prime_at (modT (i := n + 1) (m := 5) (by decide)).1 (modT (i := n + 1) (m := 5) (by decide)).2
    refine fK_s ep ?_
    walk_at "dt"
    exact q _ _ ⟨_, _, f, k, rfl, .inr hf1, by omega, by omega, hk, hk2⟩ (modT hm).1 (modT hm).2
theorem Tp.mono {K : PySem.W.Frag} {a : Ad} {v : V} {b b' : Int} {s : SD (nf a)} (h : Tp K a v b s) (hb : b ≤ b') : Tp K a v b' s := by
  obtain ⟨c, n, f, k, e, h1, h2, h3, h4⟩ := h
  exact ⟨c, n, f, k, e, h1, h2, by omega, h4⟩
theorem Tp.is {K : PySem.W.Frag} {a : Ad} {v : V} {b : Int} {s : SD (nf a)} (h : Tp K a v b s) : ∃ A, s = .ow v A := by
  obtain ⟨c, n, f, k, e, _⟩ := h
  exact ⟨_, e⟩
def keptText : Str := "name flag slot func open own look bind call keep take shift run drop "
def keptText2 : Str := "apart when held fail guard else after end with of on off"
theorem kept_split : Txt.split (keptText ++ keptText2) " " = keptWords := by decide +kernel
theorem d_law_kept {K : PySem.W.Frag} {a : Ad} : ∀ as Qd, as.length = 0 → (S_law_kept a) as Qd → td_law_kept K a (fnEnds as Qd) (as ++ List.replicate (1 - 0) .un) := by
  rintro as Qd hl ⟨rfl, q⟩
  show td_law_kept K a (fnEnds _ Qd) [.un]
  unfold td_law_kept
  walk_at "dt"
  rw [show Txt.split (Str.ofString "name flag slot func open own look bind call keep take shift run drop " ++ Str.ofString "apart when held fail guard else after end with of on off") (Str.ofString " ") = keptWords from kept_split]
  exact q
theorem d_law_signs {K : PySem.W.Frag} {a : Ad} : ∀ as Qd, as.length = 0 → (S_law_signs a) as Qd → td_law_signs K a (fnEnds as Qd) (as ++ List.replicate (0 - 0) .un) := by
  rintro as Qd hl ⟨rfl, q⟩
  show td_law_signs K a (fnEnds _ Qd) []
  unfold td_law_signs
  walk_at "dt"
  exact q
theorem d_law_number {K : PySem.W.Frag} {a : Ad} : ∀ as Qd, as.length = 1 → (S_law_number K a) as Qd → td_law_number K a (fnEnds as Qd) (as ++ List.replicate (1 - 1) .un) := by
  rintro as Qd hl ⟨v, s, b, rfl, hT, hb, q⟩
  obtain ⟨A, rfl⟩ := hT.is
  show td_law_number K a (fnEnds _ Qd) [.ow v A]
  unfold td_law_number
  walk_at "dt"
  refine ⟨v, _, b, 3, rfl, hT, by omega, by decide, by decide, fun s' d hT1 hd0 hd1 => ?_⟩
  obtain ⟨A1, rfl⟩ := hT1.is
  walk_at "dt"
  refine ite_s (fun hc => ?_) (fun hc => ?_)
  · walk_at "dt"
    refine ⟨v, _, b + 1, 10 ^ 60, rfl, hT1, by omega, by decide, by decide, fun s' d hT2 hd0 hd1 => ?_⟩
    obtain ⟨A2, rfl⟩ := hT2.is
    walk_at "dt"
    exact q _ _ (hT2.mono (by omega)) hd0 hd1
  · walk_at "dt"
    refine ⟨v, _, b + 1, 13, rfl, hT1, by omega, by decide, by decide, fun s' d hT2 hd0 hd1 => ?_⟩
    obtain ⟨A2, rfl⟩ := hT2.is
    walk_at "dt"
    exact q _ _ (hT2.mono (by omega)) hd0 (Int.lt_trans hd1 (by decide))
end K01

namespace K01
open PySem L2 DL
open DS (Pr ltM)
local macro_rules | `(tactic| walk_at "dn") => `(tactic| first | (simp only [List.set_cons_zero, List.set_cons_succ, List.map_cons, List.map_nil, List.append_nil, List.nil_append, List.cons_append, rs_v, rs_o, pb_nil, pb_v, pb_o, back_nil, back_fz, back_un, back_ow, wp_nil, wp_cons, List.getElem?_cons_zero, List.getElem?_cons_succ, Option.getD_some, stP1, stP2, stP3]; exact rfl) | exact rfl)
local macro_rules | `(tactic| walk_at "db") => `(tactic| repeat first | exact bo_nil | refine bo_fz ?_ | refine bo_un ?_ | refine bo_ow ?_ | refine bo_fr ?_)
local macro_rules | `(tactic| walk_at "dk") => `(tactic| first | exact kb1 | exact kb2 | exact kb3 | exact kb4 | exact kb5 | exact kb6)
local macro_rules | `(tactic| walk_at "da") => `(tactic| first | assumption | omega | decide | (exact Or.inl ⟨by omega, by omega⟩) | (exact Or.inr ⟨by omega, by omega⟩) | (exact ⟨by decide, by decide⟩) | (exact ⟨by decide, by decide, by omega⟩))
local macro_rules | `(tactic| walk_at "s1") => `(tactic| first
  | with_reducible refine sNext_s ?_
  | with_reducible refine sSeq_s ?_
  | with_reducible refine sBrk_s ?_
  | with_reducible refine sCnt_s ?_
  | with_reducible refine sIf_s ?_
  | with_reducible refine sRet_s ?_
  | with_reducible refine sRetN_s ?_
  | with_reducible refine sDrop_s ?_
  | with_reducible refine sSet_s ?_
  | with_reducible refine sAsg_s ?_
  | with_reducible refine gsNil_s ?_
  | with_reducible refine gsCons_s ?_
  | with_reducible refine sSetL_s ?_
  | with_reducible refine sSetDD_s ?_
  | with_reducible refine sDPutV_s ?_
  | with_reducible refine dC_s ?_
  | with_reducible refine dBv_s ?_
  | with_reducible refine bvK_s ?_
  | with_reducible refine dNot_s ?_
  | with_reducible refine dAnd_s ?_
  | with_reducible refine dOr_s ?_
  | with_reducible refine dYes_s ?_
  | with_reducible refine dAndV_s ?_
  | with_reducible refine dOrV_s ?_
  | with_reducible refine dNotV_s ?_
  | with_reducible refine andVK_s ?_
  | with_reducible refine orVK_s ?_
  | with_reducible refine notVK_s ?_
  | with_reducible refine dIf_s ?_
  | with_reducible refine dIsN_s ?_
  | with_reducible refine aNil_s ?_
  | with_reducible refine aCons_s ?_
  | with_reducible refine dTup_s ?_
  | with_reducible refine dLst_s ?_
  | with_reducible refine dD0_s ?_
  | with_reducible refine dOp_s ?_
  | with_reducible refine dAdd_s ?_
  | with_reducible refine dSub_s ?_
  | with_reducible refine dMul_s ?_
  | with_reducible refine dMod_s ?_
  | with_reducible refine dDiv_s ?_
  | with_reducible refine dPow_s ?_
  | with_reducible refine dCmp_s ?_
  | with_reducible refine opI0_s ?_
  | with_reducible refine dEqG_s ?_
  | with_reducible refine dF_s ?_
  | with_reducible refine addI_s ?_
  | with_reducible refine inS_s ?_
  | with_reducible refine dChain_s ?_
  | with_reducible refine chK_s ?_
  | with_reducible refine chK2_s ?_
  | with_reducible refine dCB_s ?_
  | with_reducible refine cbInt_s ?_
  | with_reducible refine cbIntB_s ?_
  | with_reducible refine cbAbs_s ?_
  | with_reducible refine cbLenL_s ?_
  | with_reducible refine cbLenT_s ?_
  | with_reducible refine cbLenD_s ?_
  | with_reducible refine cbList_s ?_
  | with_reducible refine cbListT_s ?_
  | with_reducible refine cbTuple_s ?_
  | with_reducible refine cbTupleT_s ?_
  | with_reducible refine cbDict_s ?_
  | with_reducible refine cbListD_s ?_
  | with_reducible refine dSortS_s ?_
  | with_reducible refine dItems_s ?_
  | with_reducible refine itemsK_s ?_
  | with_reducible refine dDS2_s ?_
  | with_reducible refine dS2K_s ?_
  | with_reducible refine dSplit_s ?_
  | with_reducible refine splK_s ?_
  | with_reducible refine dJoin_s ?_
  | with_reducible refine joinK_s ?_
  | with_reducible refine oNone_s ?_
  | with_reducible refine oSome_s ?_
  | with_reducible refine ok'_s ?_
  | with_reducible refine dSlS_s ?_
  | with_reducible refine dSlL_s ?_
  | with_reducible refine slLK_s ?_
  | with_reducible refine dFld_s ?_
  | with_reducible refine mNil_s ?_
  | with_reducible refine mVal_s ?_
  | with_reducible refine dCall_s ?_
  | with_reducible refine dMeth_s ?_
  | with_reducible refine dMake_s ?_
  | with_reducible refine dOwnOp_s ?_
  | with_reducible refine sStS_s ?_
  | with_reducible refine sCallO_s ?_
  | with_reducible refine sFldS_s ?_
  | with_reducible refine sFor_s ?_
  | with_reducible refine forCons_s ?_
  | with_reducible refine forNil_s ?_
  | with_reducible refine iL_s ?_
  | with_reducible refine ilK_s ?_
  | with_reducible refine ilS_s ?_
  | with_reducible refine iT_s ?_
  | with_reducible refine itK_s ?_
  | with_reducible refine iS_s ?_
  | with_reducible refine isK_s ?_
  | with_reducible refine iK_s ?_
  | with_reducible refine ikK_s ?_
  | with_reducible refine iKV_s ?_
  | with_reducible refine ikvK_s ?_
  | with_reducible refine iR1_s ?_
  | with_reducible refine iR2_s ?_
  | with_reducible refine dLc_s ?_
  | with_reducible refine dDc_s ?_
  | with_reducible refine dInV_s ?_
  | with_reducible refine dEqDG_s ?_
  | with_reducible refine dIsB_s ?_
  | with_reducible refine isBF_s ?_
  | with_reducible refine isBT_s ?_
  | ((with_reducible refine' dVar_s ?e0 ?_); (case e0 => exact rfl))
  | ((with_reducible refine' dVarQf_s ?e0 ?_); (case e0 => exact rfl))
  | ((with_reducible refine' dVarQo_s ?e0 ?e1 ?_); (case e0 => exact rfl); (case e1 => walk_at "dn"))
  | ((with_reducible refine' dPopV_s ?e0 ?_); (case e0 => exact rfl))
  | ((with_reducible refine' setK_s ?e0 ?e1 ?_); (case e0 => exact rfl); (case e1 => walk_at "dn"))
  | ((with_reducible refine' gN_s ?e0 ?e1 ?_); (case e0 => exact rfl); (case e1 => walk_at "dn"))
  | ((with_reducible refine' gT_s ?e0 ?_); (case e0 => exact rfl))
  | ((with_reducible refine' setL_s ?e0 ?e1 ?e2 ?_); (case e0 => exact rfl); (case e1 => exact rfl); (case e2 => (intro p; walk_at "dn")))
  | ((with_reducible refine' sSetD0_s ?e0 ?e1 ?_); (case e0 => exact rfl); (case e1 => (intro p; walk_at "dn")))
  | ((with_reducible refine' setDD_s ?e0 ?e1 ?_); (case e0 => exact rfl); (case e1 => (intro p; walk_at "dn")))
  | ((with_reducible refine' appW_s ?e0 ?_); (case e0 => exact rfl))
  | ((with_reducible refine' dVarF_s ?e0 ?e1 ?_); (case e0 => exact rfl); (case e1 => walk_at "dn"))
  | ((with_reducible refine' dVarFD_s ?e0 ?e1 ?_); (case e0 => exact rfl); (case e1 => walk_at "dn"))
  | ((with_reducible refine' dPutK_s ?e0 ?_); (case e0 => exact rfl))
  | ((with_reducible refine' lenQ_s ?e0 ?_); (case e0 => exact rfl))
  | ((with_reducible refine' opI_s ?e0 ?_); (case e0 => walk_at "da"))
  | ((with_reducible refine' eqF_s ?e0 ?_); (case e0 => exact rfl))
  | ((with_reducible refine' eqT_s ?e0 ?_); (case e0 => exact rfl))
  | ((with_reducible refine' fldK_s ?e0 ?_); (case e0 => exact rfl))
  | ((with_reducible refine' mSlot_s ?e0 ?e1 ?_); (case e0 => exact rfl); (case e1 => trivial))
  | ((with_reducible refine' callK_s ?e0 ?e1 ?e2 ?e3 ?e4 ?_); (case e0 => exact rfl); (case e1 => walk_at "dn"); (case e2 => exact rfl); (case e3 => exact rfl); (case e4 => walk_at "dn"))
  | ((with_reducible refine' methK_s ?e0 ?_); (case e0 => exact rfl))
  | ((with_reducible refine' methK2_s ?e0 ?e1 ?e2 ?e3 ?e4 ?_); (case e0 => exact rfl); (case e1 => walk_at "dn"); (case e2 => exact rfl); (case e3 => exact rfl); (case e4 => walk_at "dn"))
  | ((with_reducible refine' putK_s ?e0 ?_); (case e0 => walk_at "dn"))
  | ((with_reducible refine' mkK_s ?e0 ?_); (case e0 => walk_at "dn"))
  | ((with_reducible refine' callOK_s ?e0 ?e1 ?e2 ?e3 ?e4 ?e5 ?_); (case e0 => exact rfl); (case e1 => walk_at "dn"); (case e2 => exact rfl); (case e3 => exact rfl); (case e4 => exact rfl); (case e5 => walk_at "dn"))
  | ((with_reducible refine' putOK_s ?e0 ?_); (case e0 => walk_at "dn"))
  | ((with_reducible refine' dStI_s ?e0 ?e1 ?_); (case e0 => exact rfl); (case e1 => exact rfl))
  | ((with_reducible refine' dStN_s ?e0 ?_); (case e0 => exact rfl))
  | ((with_reducible refine' stSK_s ?e0 ?e1 ?e2 ?e3 ?_); (case e0 => exact rfl); (case e1 => exact rfl); (case e2 => walk_at "dn"); (case e3 => walk_at "dn"))
  | ((with_reducible refine' sStG_s ?e0 ?e1 ?e2 ?_); (case e0 => exact rfl); (case e1 => exact rfl); (case e2 => exact rfl))
  | ((with_reducible refine' stGK_s ?e0 ?e1 ?e2 ?_); (case e0 => exact rfl); (case e1 => walk_at "dn"); (case e2 => walk_at "dn"))
  | ((with_reducible refine' sStPop_s ?e0 ?e1 ?_); (case e0 => exact rfl); (case e1 => walk_at "dn"))
  | ((with_reducible refine' sRetSt_s ?e0 ?_); (case e0 => exact rfl))
  | ((with_reducible refine' retStK_s ?e0 ?e1 ?_); (case e0 => exact rfl); (case e1 => walk_at "dn"))
  | ((with_reducible refine' iteT_s ?e0 ?_); (case e0 => (first | exact rfl | assumption)))
  | ((with_reducible refine' iteF_s ?e0 ?_); (case e0 => (first | exact rfl | assumption)))
  | ((with_reducible refine' isiStr_s ?e0 ?_); (case e0 => walk_at "dk"))
  | ((with_reducible refine' isiInt_s ?e0 ?_); (case e0 => walk_at "dk"))
  | ((with_reducible refine' isiDct_s ?e0 ?_); (case e0 => walk_at "dk"))
  | ((with_reducible refine' splK2_s ?e0 ?e1 ?_); (case e0 => decide); (case e1 => decide))
  | ((with_reducible refine' addS_s ?e0 ?_); (case e0 => walk_at "da"))
  | ((with_reducible refine' addL_s ?e0 ?_); (case e0 => walk_at "da"))
  | ((with_reducible refine' cbLenS_s ?e0 ?_); (case e0 => walk_at "da"))
  | ((with_reducible refine' slSK_s ?e0 ?_); (case e0 => walk_at "da"))
  | ((with_reducible refine' lcK_s ?e0 ?_); (case e0 => walk_at "dn"))
  | ((with_reducible refine' dcK_s ?e0 ?_); (case e0 => walk_at "dn"))
  | ((with_reducible refine' makeK_s ?e0 ?e1 ?e2 ?e3 ?e4 ?e5 ?_); (case e0 => exact rfl); (case e1 => walk_at "dn"); (case e2 => walk_at "dz"); (case e3 => exact rfl); (case e4 => exact rfl); (case e5 => walk_at "dn"))
  | ((with_reducible refine' ir1K_s ?e0 ?_); (case e0 => walk_at "da"))
  | ((with_reducible refine' ir2K_s ?e0 ?_); (case e0 => walk_at "da"))
  | ((with_reducible refine' fnRt_s ?e0 ?e1 ?_); (case e0 => walk_at "db"); (case e1 => walk_at "dn"))
  | ((with_reducible refine' fnNx_s ?e0 ?e1 ?_); (case e0 => walk_at "db"); (case e1 => walk_at "dn"))
  | ((with_reducible refine' fnRo_s ?e0 ?e1 ?_); (case e0 => walk_at "db"); (case e1 => walk_at "dn"))
  | ((with_reducible refine' fnRtO_s ?e0 ?e1 ?_); (case e0 => walk_at "db"); (case e1 => walk_at "dn")))
local macro_rules | `(tactic| walk_at "ds") => `(tactic| repeat walk_at "s1")
local macro_rules | `(tactic| walk_at "s2") => `(tactic| first
  | walk_at "s1"
  | with_reducible refine dMkV_s ?_
  | with_reducible refine mkV1_s ?_
  | with_reducible refine mkV2_s ?_
  | with_reducible refine dMkV0_s ?_
  | with_reducible refine dExG_s ?_
  | ((with_reducible refine' exG1_s ?e0 ?e1 ?_); (case e0 => assumption); (case e1 => exact rfl))
  | ((with_reducible refine' exG2_s ?e0 ?e1 ?_); (case e0 => assumption); (case e1 => exact rfl))
  | ((with_reducible refine' exG3_s ?e0 ?e1 ?_); (case e0 => assumption); (case e1 => exact rfl))
  | with_reducible refine dD1_s ?_
  | with_reducible refine dNeg_s ?_
  | ((with_reducible refine' sAugI_s ?e0 ?_); (case e0 => exact rfl))
  | ((with_reducible refine' augK_s ?e0 ?e1 ?_); (case e0 => exact rfl); (case e1 => walk_at "dn"))
  | with_reducible refine dIxR_s ?_
  | with_reducible refine lenR_s ?_
  | with_reducible refine dNeS_s ?_
  | ((with_reducible refine' dIxV_s ?e0 ?_); (case e0 => exact rfl))
  | ((with_reducible refine' ixVK_s ?e0 ?e1 ?_); (case e0 => exact rfl); (case e1 => exact rfl))
  | with_reducible refine sLPut_s ?_
  | ((with_reducible refine' lPutK_s ?e0 ?_); (case e0 => exact rfl))
  | ((with_reducible refine' lPutK2_s ?e0 ?e1 ?e2 ?_); (case e0 => exact rfl); (case e1 => exact rfl); (case e2 => walk_at "dn"))
  | ((with_reducible refine' sLAug_s ?e0 ?e1 ?e2 ?_); (case e0 => exact rfl); (case e1 => decide); (case e2 => exact rfl))
  | ((with_reducible refine' lAugK_s ?e0 ?e1 ?e2 ?_); (case e0 => exact rfl); (case e1 => exact rfl); (case e2 => walk_at "dn"))
  | with_reducible refine sRetL_s ?_
  | ((with_reducible refine' ixL_s ?e0 ?_); (case e0 => exact rfl))
  | ((with_reducible refine' addLb_s ?e0 ?_); (case e0 => exact rfl)))
local macro_rules | `(tactic| walk_at "dt") => `(tactic| repeat walk_at "s2")
local macro_rules | `(tactic| walk_at "s5") => `(tactic| first
  | walk_at "s2"
  | with_reducible refine dCatT_s ?_
  | with_reducible refine dInX_s ?_
  | with_reducible refine dInXV_s ?_
  | with_reducible refine dSortM_s ?_
  | with_reducible refine sortMK_s ?_
  | with_reducible refine dSortSet_s ?_
  | with_reducible refine iQ_s ?_
  | with_reducible refine iqL_s ?_
  | with_reducible refine iqT_s ?_
  | with_reducible refine dOwnE_s ?_
  | with_reducible refine minK_s ?_
  | with_reducible refine maxK_s ?_
  | with_reducible refine min3K_s ?_
  | ((with_reducible refine' ixT_s ?e0 ?_); (case e0 => exact rfl))
  | ((with_reducible refine' dEqV_s ?e0 ?_); (case e0 => exact rfl))
  | ((with_reducible refine' dLenV_s ?e0 ?_); (case e0 => exact rfl))
  | ((with_reducible refine' isiTup_s ?e0 ?_); (case e0 => exact kb7)))
local macro_rules | `(tactic| walk_at "dq") => `(tactic| repeat walk_at "s5")
/-! ### words -/
abbrev cl (s : Str) : List Nat := s.cps.toList
theorem cl_app (x y : Str) : cl (x ++ y) = cl x ++ cl y := by
  show (x ++ y).cps.toList = _
  rw [Str.cps_append, Array.toList_append]
theorem cl_len (x : Str) : x.length = (cl x).length := by simp [cl, Str.length]
theorem cl_ext {x y : Str} (h : cl x = cl y) : x = y := Str.ext' (Array.toList_inj.mp h)
def lts : List Nat := letters.cps.toList
def dgs : List Nat := digits.cps.toList
theorem lts_len : lts.length = 26 := by decide +kernel
theorem dgs_len : dgs.length = 10 := by decide +kernel
/-- a word in the making: r signs may still come -/
def Bs (b : Str) (r : Nat) : Prop := ∃ c t, cl b = c :: t ∧ c ∈ lts ∧ (∀ x ∈ t, x ∈ lts ∨ x ∈ dgs) ∧ t.length + r ≤ 11
theorem Bs.grow {b : Str} {r : Nat} (h : Bs b (r + 1)) {c : Nat} (hc : c ∈ lts ∨ c ∈ dgs) : Bs (b ++ ⟨#[c]⟩) r := by
  obtain ⟨c0, t, e, h1, h2, h3⟩ := h
  refine ⟨c0, t ++ [c], by rw [cl_app, e]; rfl, h1, fun x hx => ?_, by rw [List.length_append]; show t.length + 1 + r ≤ 11; omega⟩
  rcases List.mem_append.mp hx with m | m
  · exact h2 x m
  · rw [List.mem_singleton.mp m]; exact hc
theorem Bs.word {b : Str} {r : Nat} (h : Bs b r) : isWordB b = true ∧ b.length ≤ 12 := by
  obtain ⟨c0, t, e, h1, h2, h3⟩ := h
  have hl : b.length = t.length + 1 := by rw [cl_len, e]; rfl
  refine ⟨?_, by omega⟩
  have ha : (cl b).all (fun c => decide (c ∈ letters.cps.toList) || decide (c ∈ digits.cps.toList)) = true := by
    rw [e, List.all_eq_true]
    intro x hx
    rw [Bool.or_eq_true, decide_eq_true_eq, decide_eq_true_eq]
    rcases List.mem_cons.mp hx with m | m
    · subst m; exact .inl h1
    · exact h2 x m
  unfold isWordB
  rw [show decide (1 ≤ b.length) = true from decide_eq_true (by omega), show decide (b.length ≤ 12) = true from decide_eq_true (by omega)]
  exact ha
theorem Bs.len {b : Str} {r : Nat} (h : Bs b r) : b.length ≤ 12 := h.word.2
theorem Bs.head {b : Str} {r : Nat} (h : Bs b r) : headB b = true := by
  obtain ⟨c0, t, e, h1, h2, h3⟩ := h
  unfold headB
  rw [show b.cps.toList = c0 :: t from e]
  exact decide_eq_true h1
theorem Bs.of {b : Str} (h1 : isWordB b = true) (h2 : headB b = true) : Bs b 0 := by
  unfold headB at h2
  unfold isWordB at h1
  simp only [Bool.and_eq_true, decide_eq_true_eq] at h1
  cases e : b.cps.toList with
  | nil => rw [e] at h2; cases h2
  | cons c t =>
    rw [e] at h2 h1
    have hl : b.length = t.length + 1 := by rw [cl_len, show cl b = c :: t from e]; rfl
    refine ⟨c, t, e, of_decide_eq_true h2, fun x hx => ?_, by omega⟩
    have := List.all_eq_true.mp h1.2 x (List.mem_cons_of_mem _ hx)
    rw [Bool.or_eq_true, decide_eq_true_eq, decide_eq_true_eq] at this
    exact this
theorem inV_strs (z : Str) : ∀ ss : List Str, inV (.str z) (ss.map V.str) = decide (z ∈ ss)
  | [] => by simp [inV]
  | s :: ss => by
    have ih := inV_strs z ss
    unfold inV at ih ⊢
    rw [List.map_cons, List.any_cons, ih]
    show ((s == z) || decide (z ∈ ss)) = decide (z ∈ s :: ss)
    by_cases h : s = z
    · subst h; simp
    · have h' : ¬ z = s := fun e => h e.symm
      simp [h, h']
def keptL : List Str := ["name", "flag", "slot", "func", "open", "own", "look", "bind", "call", "keep", "take", "shift", "run", "drop", "apart", "when", "held", "fail", "guard", "else", "after", "end", "with", "of", "on", "off"]
theorem keptV_eq : keptV = keptL.map V.str := rfl
theorem kept_sub : ∀ w ∈ keptL, w ∈ keptWords := by decide +kernel
theorem Bs.ident {b : Str} {r : Nat} (h : Bs b r) (hk : b ∉ keptWords) : isIdB b = true := by
  unfold isIdB
  rw [h.word.1, h.head, keptV_eq, inV_strs]
  have : b ∉ keptL := fun m => hk (kept_sub b m)
  simp [this]
theorem kept_nodig : ∀ w ∈ keptWords, ∀ c ∈ cl w, c ∉ dgs := by decide +kernel
theorem kept_bs : ∀ w ∈ keptWords, (match cl w with | c :: t => decide (c ∈ lts) && t.all (fun x => decide (x ∈ lts)) && decide (t.length ≤ 4) | [] => false) = true := by decide +kernel
theorem kept_w {w : Str} (h : w ∈ keptWords) : Bs w 7 := by
  have := kept_bs w h
  cases e : cl w with
  | nil => rw [e] at this; cases this
  | cons c t =>
    rw [e] at this
    simp only [Bool.and_eq_true, decide_eq_true_eq, List.all_eq_true] at this
    exact ⟨c, t, e, this.1.1, fun x hx => .inl (this.1.2 x hx), by have := this.2; omega⟩
theorem cut9 {b : Str} {r : Nat} (h : Bs b r) : ∃ c t, cl (cutS b none (some 9)) = c :: t ∧ c ∈ lts ∧ (∀ x ∈ t, x ∈ lts ∨ x ∈ dgs) ∧ t.length ≤ 8 := by
  obtain ⟨c0, t, e, h1, h2, h3⟩ := h
  have hl : b.length = t.length + 1 := by rw [cl_len, e]; rfl
  have e9 : HT.sIx b.length b.length (some 9) = min 9 b.length := by
    unfold HT.sIx
    simp
  have e0 : HT.sIx b.length 0 none = 0 := rfl
  refine ⟨c0, t.take (min 9 b.length - 1), ?_, h1, fun x hx => h2 x (List.mem_of_mem_take hx), by rw [List.length_take]; omega⟩
  show (cl (cutS b none (some 9))) = _
  have : cl (cutS b none (some 9)) = ((cl b).drop 0).take (min 9 b.length - 0) := by
    unfold cutS
    rw [e9, e0]
  rw [this, e, List.drop_zero, Nat.sub_zero]
  obtain ⟨k, hk⟩ : ∃ k, min 9 b.length = k + 1 := ⟨min 9 b.length - 1, by omega⟩
  rw [hk]
  rfl
theorem cut_len (b : Str) : (cutS b none (some 9)).length ≤ b.length := by
  rw [cl_len, cl_len]
  unfold cutS
  simp only [cl]
  rw [List.length_take, List.length_drop]
  omega
theorem digs_ok : ∀ i < 64, (∀ c ∈ cl (Str.ofString (toString ((i : Nat) : Int))), c ∈ dgs) ∧ (Str.ofString (toString ((i : Nat) : Int))).length ≤ 2 ∧ 1 ≤ (Str.ofString (toString ((i : Nat) : Int))).length := by decide +kernel
theorem tail_bs {b : Str} {r : Nat} (h : Bs b r) {i : Nat} (hi : i < 64) : Bs (cutS b none (some 9) ++ Str.ofString (toString ((i : Nat) : Int))) 0 := by
  obtain ⟨c, u, e, h1, h2, h3⟩ := cut9 h
  obtain ⟨t1, t2, _⟩ := digs_ok i hi
  refine ⟨c, u ++ cl (Str.ofString (toString ((i : Nat) : Int))), by rw [cl_app, e]; rfl, h1, fun x hx => ?_, by rw [List.length_append, ← cl_len]; omega⟩
  rcases List.mem_append.mp hx with m | m
  · exact h2 x m
  · exact .inr (t1 x m)
theorem tail_kept {p : Str} {i : Nat} (hi : i < 64) : p ++ Str.ofString (toString ((i : Nat) : Int)) ∉ keptWords := fun m => by
  obtain ⟨t1, _, t2⟩ := digs_ok i hi
  have hne : cl (Str.ofString (toString ((i : Nat) : Int))) ≠ [] := fun e => by rw [cl_len, e] at t2; cases t2
  obtain ⟨c, hc⟩ := List.exists_mem_of_ne_nil _ hne
  exact kept_nodig _ m c (by rw [cl_app]; exact List.mem_append_right _ hc) (t1 c hc)
theorem signs_eq : cl signs = lts ++ dgs := by decide +kernel
/-- a drawn sign of the first m -/
theorem sign_at {m d : Int} (h0 : 0 ≤ d) (h1 : d < m) (hm : m ≤ 36) : ∃ c, atI signs.cps.toList d = some c ∧ (c ∈ lts ∨ c ∈ dgs) ∧ (m ≤ 26 → c ∈ lts) := by
  obtain ⟨c, hc, ec, e2⟩ := atI_ex (xs := lts ++ dgs) (k := d) h0 (by rw [List.length_append, lts_len, dgs_len]; omega)
  refine ⟨c, by rw [show signs.cps.toList = lts ++ dgs from signs_eq]; exact ec, List.mem_append.mp hc, fun h => ?_⟩
  rw [List.getElem?_append_left (by rw [lts_len]; omega)] at e2
  exact List.mem_of_getElem? e2
theorem signs_lt : signs.length ≤ 1000000 := by decide +kernel
theorem d_law_spelled {K : PySem.W.Frag} {a : Ad} : ∀ as Qd, as.length = 2 → (S_law_spelled K a) as Qd → td_law_spelled K a (fnEnds as Qd) (as ++ List.replicate (6 - 2) .un) := by
  rintro as Qd hl ⟨v, s, b, rfl, hT, hb, q⟩
  obtain ⟨A, rfl⟩ := hT.is
  show td_law_spelled K a (fnEnds _ Qd) [.ow v A, .fz (.lst []), .un, .un, .un, .un]
  unfold td_law_spelled
  walk_at "dt"
  refine ⟨v, _, b, 5, rfl, hT, by omega, by decide, by decide, fun s1 d1 hT1 hd10 hd11 => ?_⟩
  obtain ⟨A1, rfl⟩ := hT1.is
  walk_at "dt"
  refine ⟨v, _, b + 1, 12, rfl, hT1, by omega, by decide, by decide, fun s2 d2 hT2 hd20 hd21 => ?_⟩
  obtain ⟨A2, rfl⟩ := hT2.is
  walk_at "dt"
  have hT2' := hT2.mono (b' := b + 2) (by omega)
  with_reducible refine seqC_id ?_
  refine cutC_s (fun env => ∃ z : Int, 1 ≤ z ∧ z ≤ 12 ∧ env = [.ow v A2, .fz (.lst []), .fz (.int d1), .fz (.int z), .un, .un]) (fun R hR => ?_) ?_
  · walk_at "dt"
    refine ite_s (fun h0 => ?_) (fun h0 => ?_)
    · walk_at "dt"
      exact hR _ ⟨1, by decide, by decide, rfl⟩
    · walk_at "dt"
      exact hR _ ⟨_, by omega, by omega, rfl⟩
  rintro _ ⟨z, hz1, hz2, rfl⟩
  walk_at "dt"
  refine ite_s (fun h1 => ?_) (fun h1 => ?_)
  · walk_at "dt"
    refine ⟨rfl, ?_⟩
    walk_at "dt"
    refine ⟨v, _, b + 2, 26, rfl, hT2', by omega, by decide, by decide, fun s3 d3 hT3 hd30 hd31 => ?_⟩
    obtain ⟨A3, rfl⟩ := hT3.is
    walk_at "dt"
    obtain ⟨w, hw, ew, _⟩ := atI_ex (xs := keptWords) (k := d3) hd30 hd31
    refine ixL_s (atI_map (f := D.str) ew) ?_
    walk_at "dt"
    refine ⟨rfl, ?_⟩
    walk_at "dt"
    refine ⟨v, _, b + 3, 36, rfl, hT3.mono (by omega), by omega, by decide, by decide, fun s4 d4 hT4 hd40 hd41 => ?_⟩
    obtain ⟨A4, rfl⟩ := hT4.is
    obtain ⟨c, ec, hc, _⟩ := sign_at hd40 hd41 (by decide)
    walk_at "dt"
    refine ixS_s (c := c) signs_lt ec ?_
    have hB := (kept_w hw).grow (r := 6) hc
    have := (kept_w hw).len
    refine addS_s (by show w.length + 1 ≤ 1000000; omega) ?_
    walk_at "dt"
    exact q _ _ (hT4.mono (by omega)) hB.word.1 hB.head
  walk_at "dt"
  with_reducible refine seqC_id ?_
  refine cutC_s (fun env => env = [.ow v A2, .fz (.lst []), .fz (.int d1), .fz (.int z), .un, .un]) (fun R hR => ?_) ?_
  · walk_at "dt"
    refine ite_s (fun h2 => ?_) (fun h2 => ?_)
    · walk_at "dt"
      refine eqDT_s (p := .list []) (q := .list []) rfl rfl (by decide +kernel) (by decide +kernel) ?_
      walk_at "dt"
      exact hR _ rfl
    · walk_at "dt"
      exact hR _ rfl
  rintro _ rfl
  walk_at "dt"
  refine ⟨rfl, ?_⟩
  walk_at "dt"
  refine ⟨v, _, b + 2, 26, rfl, hT2', by omega, by decide, by decide, fun s3 d3 hT3 hd30 hd31 => ?_⟩
  obtain ⟨A3, rfl⟩ := hT3.is
  obtain ⟨c, ec, _, hc⟩ := sign_at hd30 hd31 (by decide)
  walk_at "dt"
  refine ixS_s (c := c) signs_lt ec ?_
  walk_at "dt"
  refine for_inv (fun ds env => ∃ (A : OA (nf a)) (w : Str) (s5 : SD (nf a)), Tp K a v (b + 15 - ds.length) (.ow v A) ∧ ds.length ≤ 11 ∧ Bs w ds.length ∧ env = [.ow v A, .fz (.lst []), .fz (.int d1), .fz (.int z), .fz (.str w), s5]) ?_ ?_ _ _ ⟨A3, _, _, hT3.mono (by simp [rangeD]; omega), by simp [rangeD]; omega, ⟨c, [], rfl, hc (by decide), (fun y hy => by cases hy), by simp [rangeD]; omega⟩, rfl⟩
  · rintro y ys env R ⟨A4, w, s5, hT4, hlen, hbs, rfl⟩ hR
    have hbl := hbs.len
    rw [List.length_cons] at hlen hT4 hbs
    walk_at "dt"
    refine ⟨rfl, ?_⟩
    walk_at "dt"
    refine ⟨v, _, _, 36, rfl, hT4, by omega, by decide, by decide, fun s6 d6 hT6 hd60 hd61 => ?_⟩
    obtain ⟨A6, rfl⟩ := hT6.is
    obtain ⟨c6, ec6, hc6, _⟩ := sign_at hd60 hd61 (by decide)
    walk_at "dt"
    refine ixS_s (c := c6) signs_lt ec6 ?_
    refine addS_s (by show w.length + 1 ≤ 1000000; omega) ?_
    walk_at "dt"
    exact hR _ ⟨A6, _, _, hT6.mono (by omega), by omega, hbs.grow hc6, rfl⟩
  · rintro env ⟨A4, w, s5, hT4, hlen, hbs, rfl⟩
    walk_at "dt"
    exact q _ _ (hT4.mono (by simp)) hbs.word.1 hbs.head
theorem nin_strs {w : Str} {ss : List Str} : inD (.str w) (.lst (ss.map .str)) = some (decide (w ∈ ss)) := by
  show ((flatD (.str w)).bind fun w => (flatDs (ss.map .str)).map fun us => inV w us) = _
  rw [flat_strs]
  exact congrArg some (inV_strs w ss)
theorem d_law_ident {K : PySem.W.Frag} {a : Ad} : ∀ as Qd, as.length = 2 → (S_law_ident K a) as Qd → td_law_ident K a (fnEnds as Qd) (as ++ List.replicate (4 - 2) .un) := by
  rintro as Qd hl ⟨v, s, b, rfl, hT, hb, q⟩
  obtain ⟨A, rfl⟩ := hT.is
  show td_law_ident K a (fnEnds _ Qd) [.ow v A, .fz (.lst []), .un, .un]
  unfold td_law_ident
  walk_at "dt"
  refine ⟨v, _, b, rfl, hT, hb, fun s1 z hT1 hz1 hz2 => ?_⟩
  obtain ⟨A1, rfl⟩ := hT1.is
  have hB := Bs.of hz1 hz2
  walk_at "dt"
  refine ninL_s (b := false) (nin_strs (ss := [])) ?_
  walk_at "dt"
  refine ⟨rfl, ?_⟩
  walk_at "dt"
  refine ninL_s nin_strs ?_
  walk_at "dt"
  refine ite_s (fun h => ?_) (fun h => ?_)
  · walk_at "dt"
    exact q _ _ hT1 (hB.ident (by simpa using h))
  · walk_at "dt"
    have hk : z.length ≤ 12 := hB.len
    show dFor _ _ (rangeD 0 1) _ _
    show dFor _ _ [.int 0] _ _
    walk_at "dt"
    refine cbStrI_s (by decide) ?_
    have := cut_len z
    have hd := (digs_ok 0 (by decide)).2.1
    refine addS_s (by show (cutS z none (some 9)).length + (Str.ofString (toString ((0 : Nat) : Int))).length ≤ 1000000; omega) ?_
    walk_at "dt"
    refine ninL_s (b := false) (nin_strs (ss := [])) ?_
    walk_at "dt"
    refine cbStrI_s (by decide) ?_
    refine addS_s (by show (cutS z none (some 9)).length + (Str.ofString (toString ((0 : Nat) : Int))).length ≤ 1000000; omega) ?_
    walk_at "dt"
    exact q _ _ hT1 ((tail_bs hB (i := 0) (by decide)).ident (tail_kept (by decide)))
end K01

namespace K01
open PySem L2 DL
open DS (Pr ltM)
local macro_rules | `(tactic| walk_at "dn") => `(tactic| first | (simp only [List.set_cons_zero, List.set_cons_succ, List.map_cons, List.map_nil, List.append_nil, List.nil_append, List.cons_append, rs_v, rs_o, pb_nil, pb_v, pb_o, back_nil, back_fz, back_un, back_ow, wp_nil, wp_cons, List.getElem?_cons_zero, List.getElem?_cons_succ, Option.getD_some, stP1, stP2, stP3]; exact rfl) | exact rfl)
local macro_rules | `(tactic| walk_at "db") => `(tactic| repeat first | exact bo_nil | refine bo_fz ?_ | refine bo_un ?_ | refine bo_ow ?_ | refine bo_fr ?_)
local macro_rules | `(tactic| walk_at "dk") => `(tactic| first | exact kb1 | exact kb2 | exact kb3 | exact kb4 | exact kb5 | exact kb6)
local macro_rules | `(tactic| walk_at "da") => `(tactic| first | assumption | omega | decide | (exact Or.inl ⟨by omega, by omega⟩) | (exact Or.inr ⟨by omega, by omega⟩) | (exact ⟨by decide, by decide⟩) | (exact ⟨by decide, by decide, by omega⟩))
local macro_rules | `(tactic| walk_at "s1") => `(tactic| first
  | with_reducible refine sNext_s ?_
  | with_reducible refine sSeq_s ?_
  | with_reducible refine sBrk_s ?_
  | with_reducible refine sCnt_s ?_
  | with_reducible refine sIf_s ?_
  | with_reducible refine sRet_s ?_
  | with_reducible refine sRetN_s ?_
  | with_reducible refine sDrop_s ?_
  | with_reducible refine sSet_s ?_
  | with_reducible refine sAsg_s ?_
  | with_reducible refine gsNil_s ?_
  | with_reducible refine gsCons_s ?_
  | with_reducible refine sSetL_s ?_
  | with_reducible refine sSetDD_s ?_
  | with_reducible refine sDPutV_s ?_
  | with_reducible refine dC_s ?_
  | with_reducible refine dBv_s ?_
  | with_reducible refine bvK_s ?_
  | with_reducible refine dNot_s ?_
  | with_reducible refine dAnd_s ?_
  | with_reducible refine dOr_s ?_
  | with_reducible refine dYes_s ?_
  | with_reducible refine dAndV_s ?_
  | with_reducible refine dOrV_s ?_
  | with_reducible refine dNotV_s ?_
  | with_reducible refine andVK_s ?_
  | with_reducible refine orVK_s ?_
  | with_reducible refine notVK_s ?_
  | with_reducible refine dIf_s ?_
  | with_reducible refine dIsN_s ?_
  | with_reducible refine aNil_s ?_
  | with_reducible refine aCons_s ?_
  | with_reducible refine dTup_s ?_
  | with_reducible refine dLst_s ?_
  | with_reducible refine dD0_s ?_
  | with_reducible refine dOp_s ?_
  | with_reducible refine dAdd_s ?_
  | with_reducible refine dSub_s ?_
  | with_reducible refine dMul_s ?_
  | with_reducible refine dMod_s ?_
  | with_reducible refine dDiv_s ?_
  | with_reducible refine dPow_s ?_
  | with_reducible refine dCmp_s ?_
  | with_reducible refine opI0_s ?_
  | with_reducible refine dEqG_s ?_
  | with_reducible refine dF_s ?_
  | with_reducible refine addI_s ?_
  | with_reducible refine inS_s ?_
  | with_reducible refine dChain_s ?_
  | with_reducible refine chK_s ?_
  | with_reducible refine chK2_s ?_
  | with_reducible refine dCB_s ?_
  | with_reducible refine cbInt_s ?_
  | with_reducible refine cbIntB_s ?_
  | with_reducible refine cbAbs_s ?_
  | with_reducible refine cbLenL_s ?_
  | with_reducible refine cbLenT_s ?_
  | with_reducible refine cbLenD_s ?_
  | with_reducible refine cbList_s ?_
  | with_reducible refine cbListT_s ?_
  | with_reducible refine cbTuple_s ?_
  | with_reducible refine cbTupleT_s ?_
  | with_reducible refine cbDict_s ?_
  | with_reducible refine cbListD_s ?_
  | with_reducible refine dSortS_s ?_
  | with_reducible refine dItems_s ?_
  | with_reducible refine itemsK_s ?_
  | with_reducible refine dDS2_s ?_
  | with_reducible refine dS2K_s ?_
  | with_reducible refine dSplit_s ?_
  | with_reducible refine splK_s ?_
  | with_reducible refine dJoin_s ?_
  | with_reducible refine joinK_s ?_
  | with_reducible refine oNone_s ?_
  | with_reducible refine oSome_s ?_
  | with_reducible refine ok'_s ?_
  | with_reducible refine dSlS_s ?_
  | with_reducible refine dSlL_s ?_
  | with_reducible refine slLK_s ?_
  | with_reducible refine dFld_s ?_
  | with_reducible refine mNil_s ?_
  | with_reducible refine mVal_s ?_
  | with_reducible refine dCall_s ?_
  | with_reducible refine dMeth_s ?_
  | with_reducible refine dMake_s ?_
  | with_reducible refine dOwnOp_s ?_
  | with_reducible refine sStS_s ?_
  | with_reducible refine sCallO_s ?_
  | with_reducible refine sFldS_s ?_
  | with_reducible refine sFor_s ?_
  | with_reducible refine forCons_s ?_
  | with_reducible refine forNil_s ?_
  | with_reducible refine iL_s ?_
  | with_reducible refine ilK_s ?_
  | with_reducible refine ilS_s ?_
  | with_reducible refine iT_s ?_
  | with_reducible refine itK_s ?_
  | with_reducible refine iS_s ?_
  | with_reducible refine isK_s ?_
  | with_reducible refine iK_s ?_
  | with_reducible refine ikK_s ?_
  | with_reducible refine iKV_s ?_
  | with_reducible refine ikvK_s ?_
  | with_reducible refine iR1_s ?_
  | with_reducible refine iR2_s ?_
  | with_reducible refine dLc_s ?_
  | with_reducible refine dDc_s ?_
  | with_reducible refine dInV_s ?_
  | with_reducible refine dEqDG_s ?_
  | with_reducible refine dIsB_s ?_
  | with_reducible refine isBF_s ?_
  | with_reducible refine isBT_s ?_
  | ((with_reducible refine' dVar_s ?e0 ?_); (case e0 => exact rfl))
  | ((with_reducible refine' dVarQf_s ?e0 ?_); (case e0 => exact rfl))
  | ((with_reducible refine' dVarQo_s ?e0 ?e1 ?_); (case e0 => exact rfl); (case e1 => walk_at "dn"))
  | ((with_reducible refine' dPopV_s ?e0 ?_); (case e0 => exact rfl))
  | ((with_reducible refine' setK_s ?e0 ?e1 ?_); (case e0 => exact rfl); (case e1 => walk_at "dn"))
  | ((with_reducible refine' gN_s ?e0 ?e1 ?_); (case e0 => exact rfl); (case e1 => walk_at "dn"))
  | ((with_reducible refine' gT_s ?e0 ?_); (case e0 => exact rfl))
  | ((with_reducible refine' setL_s ?e0 ?e1 ?e2 ?_); (case e0 => exact rfl); (case e1 => exact rfl); (case e2 => (intro p; walk_at "dn")))
  | ((with_reducible refine' sSetD0_s ?e0 ?e1 ?_); (case e0 => exact rfl); (case e1 => (intro p; walk_at "dn")))
  | ((with_reducible refine' setDD_s ?e0 ?e1 ?_); (case e0 => exact rfl); (case e1 => (intro p; walk_at "dn")))
  | ((with_reducible refine' appW_s ?e0 ?_); (case e0 => exact rfl))
  | ((with_reducible refine' dVarF_s ?e0 ?e1 ?_); (case e0 => exact rfl); (case e1 => walk_at "dn"))
  | ((with_reducible refine' dVarFD_s ?e0 ?e1 ?_); (case e0 => exact rfl); (case e1 => walk_at "dn"))
  | ((with_reducible refine' dPutK_s ?e0 ?_); (case e0 => exact rfl))
  | ((with_reducible refine' lenQ_s ?e0 ?_); (case e0 => exact rfl))
  | ((with_reducible refine' opI_s ?e0 ?_); (case e0 => walk_at "da"))
  | ((with_reducible refine' eqF_s ?e0 ?_); (case e0 => exact rfl))
  | ((with_reducible refine' eqT_s ?e0 ?_); (case e0 => exact rfl))
  | ((with_reducible refine' fldK_s ?e0 ?_); (case e0 => exact rfl))
  | ((with_reducible refine' mSlot_s ?e0 ?e1 ?_); (case e0 => exact rfl); (case e1 => trivial))
  | ((with_reducible refine' callK_s ?e0 ?e1 ?e2 ?e3 ?e4 ?_); (case e0 => exact rfl); (case e1 => walk_at "dn"); (case e2 => exact rfl); (case e3 => exact rfl); (case e4 => walk_at "dn"))
  | ((with_reducible refine' methK_s ?e0 ?_); (case e0 => exact rfl))
  | ((with_reducible refine' methK2_s ?e0 ?e1 ?e2 ?e3 ?e4 ?_); (case e0 => exact rfl); (case e1 => walk_at "dn"); (case e2 => exact rfl); (case e3 => exact rfl); (case e4 => walk_at "dn"))
  | ((with_reducible refine' putK_s ?e0 ?_); (case e0 => walk_at "dn"))
  | ((with_reducible refine' mkK_s ?e0 ?_); (case e0 => walk_at "dn"))
  | ((with_reducible refine' callOK_s ?e0 ?e1 ?e2 ?e3 ?e4 ?e5 ?_); (case e0 => exact rfl); (case e1 => walk_at "dn"); (case e2 => exact rfl); (case e3 => exact rfl); (case e4 => exact rfl); (case e5 => walk_at "dn"))
  | ((with_reducible refine' putOK_s ?e0 ?_); (case e0 => walk_at "dn"))
  | ((with_reducible refine' dStI_s ?e0 ?e1 ?_); (case e0 => exact rfl); (case e1 => exact rfl))
  | ((with_reducible refine' dStN_s ?e0 ?_); (case e0 => exact rfl))
  | ((with_reducible refine' stSK_s ?e0 ?e1 ?e2 ?e3 ?_); (case e0 => exact rfl); (case e1 => exact rfl); (case e2 => walk_at "dn"); (case e3 => walk_at "dn"))
  | ((with_reducible refine' sStG_s ?e0 ?e1 ?e2 ?_); (case e0 => exact rfl); (case e1 => exact rfl); (case e2 => exact rfl))
  | ((with_reducible refine' stGK_s ?e0 ?e1 ?e2 ?_); (case e0 => exact rfl); (case e1 => walk_at "dn"); (case e2 => walk_at "dn"))
  | ((with_reducible refine' sStPop_s ?e0 ?e1 ?_); (case e0 => exact rfl); (case e1 => walk_at "dn"))
  | ((with_reducible refine' sRetSt_s ?e0 ?_); (case e0 => exact rfl))
  | ((with_reducible refine' retStK_s ?e0 ?e1 ?_); (case e0 => exact rfl); (case e1 => walk_at "dn"))
  | ((with_reducible refine' iteT_s ?e0 ?_); (case e0 => (first | exact rfl | assumption)))
  | ((with_reducible refine' iteF_s ?e0 ?_); (case e0 => (first | exact rfl | assumption)))
  | ((with_reducible refine' isiStr_s ?e0 ?_); (case e0 => walk_at "dk"))
  | ((with_reducible refine' isiInt_s ?e0 ?_); (case e0 => walk_at "dk"))
  | ((with_reducible refine' isiDct_s ?e0 ?_); (case e0 => walk_at "dk"))
  | ((with_reducible refine' splK2_s ?e0 ?e1 ?_); (case e0 => decide); (case e1 => decide))
  | ((with_reducible refine' addS_s ?e0 ?_); (case e0 => walk_at "da"))
  | ((with_reducible refine' addL_s ?e0 ?_); (case e0 => walk_at "da"))
  | ((with_reducible refine' cbLenS_s ?e0 ?_); (case e0 => walk_at "da"))
  | ((with_reducible refine' slSK_s ?e0 ?_); (case e0 => walk_at "da"))
  | ((with_reducible refine' lcK_s ?e0 ?_); (case e0 => walk_at "dn"))
  | ((with_reducible refine' dcK_s ?e0 ?_); (case e0 => walk_at "dn"))
  | ((with_reducible refine' makeK_s ?e0 ?e1 ?e2 ?e3 ?e4 ?e5 ?_); (case e0 => exact rfl); (case e1 => walk_at "dn"); (case e2 => walk_at "dz"); (case e3 => exact rfl); (case e4 => exact rfl); (case e5 => walk_at "dn"))
  | ((with_reducible refine' ir1K_s ?e0 ?_); (case e0 => walk_at "da"))
  | ((with_reducible refine' ir2K_s ?e0 ?_); (case e0 => walk_at "da"))
  | ((with_reducible refine' fnRt_s ?e0 ?e1 ?_); (case e0 => walk_at "db"); (case e1 => walk_at "dn"))
  | ((with_reducible refine' fnNx_s ?e0 ?e1 ?_); (case e0 => walk_at "db"); (case e1 => walk_at "dn"))
  | ((with_reducible refine' fnRo_s ?e0 ?e1 ?_); (case e0 => walk_at "db"); (case e1 => walk_at "dn"))
  | ((with_reducible refine' fnRtO_s ?e0 ?e1 ?_); (case e0 => walk_at "db"); (case e1 => walk_at "dn")))
local macro_rules | `(tactic| walk_at "ds") => `(tactic| repeat walk_at "s1")
local macro_rules | `(tactic| walk_at "s2") => `(tactic| first
  | walk_at "s1"
  | with_reducible refine dMkV_s ?_
  | with_reducible refine mkV1_s ?_
  | with_reducible refine mkV2_s ?_
  | with_reducible refine dMkV0_s ?_
  | with_reducible refine dExG_s ?_
  | ((with_reducible refine' exG1_s ?e0 ?e1 ?_); (case e0 => assumption); (case e1 => exact rfl))
  | ((with_reducible refine' exG2_s ?e0 ?e1 ?_); (case e0 => assumption); (case e1 => exact rfl))
  | ((with_reducible refine' exG3_s ?e0 ?e1 ?_); (case e0 => assumption); (case e1 => exact rfl))
  | with_reducible refine dD1_s ?_
  | with_reducible refine dNeg_s ?_
  | ((with_reducible refine' sAugI_s ?e0 ?_); (case e0 => exact rfl))
  | ((with_reducible refine' augK_s ?e0 ?e1 ?_); (case e0 => exact rfl); (case e1 => walk_at "dn"))
  | with_reducible refine dIxR_s ?_
  | with_reducible refine lenR_s ?_
  | with_reducible refine dNeS_s ?_
  | ((with_reducible refine' dIxV_s ?e0 ?_); (case e0 => exact rfl))
  | ((with_reducible refine' ixVK_s ?e0 ?e1 ?_); (case e0 => exact rfl); (case e1 => exact rfl))
  | with_reducible refine sLPut_s ?_
  | ((with_reducible refine' lPutK_s ?e0 ?_); (case e0 => exact rfl))
  | ((with_reducible refine' lPutK2_s ?e0 ?e1 ?e2 ?_); (case e0 => exact rfl); (case e1 => exact rfl); (case e2 => walk_at "dn"))
  | ((with_reducible refine' sLAug_s ?e0 ?e1 ?e2 ?_); (case e0 => exact rfl); (case e1 => decide); (case e2 => exact rfl))
  | ((with_reducible refine' lAugK_s ?e0 ?e1 ?e2 ?_); (case e0 => exact rfl); (case e1 => exact rfl); (case e2 => walk_at "dn"))
  | with_reducible refine sRetL_s ?_
  | ((with_reducible refine' ixL_s ?e0 ?_); (case e0 => exact rfl))
  | ((with_reducible refine' addLb_s ?e0 ?_); (case e0 => exact rfl)))
local macro_rules | `(tactic| walk_at "dt") => `(tactic| repeat walk_at "s2")
local macro_rules | `(tactic| walk_at "s5") => `(tactic| first
  | walk_at "s2"
  | with_reducible refine dCatT_s ?_
  | with_reducible refine dInX_s ?_
  | with_reducible refine dInXV_s ?_
  | with_reducible refine dSortM_s ?_
  | with_reducible refine sortMK_s ?_
  | with_reducible refine dSortSet_s ?_
  | with_reducible refine iQ_s ?_
  | with_reducible refine iqL_s ?_
  | with_reducible refine iqT_s ?_
  | with_reducible refine dOwnE_s ?_
  | with_reducible refine minK_s ?_
  | with_reducible refine maxK_s ?_
  | with_reducible refine min3K_s ?_
  | ((with_reducible refine' ixT_s ?e0 ?_); (case e0 => exact rfl))
  | ((with_reducible refine' dEqV_s ?e0 ?_); (case e0 => exact rfl))
  | ((with_reducible refine' dLenV_s ?e0 ?_); (case e0 => exact rfl))
  | ((with_reducible refine' isiTup_s ?e0 ?_); (case e0 => exact kb7)))
local macro_rules | `(tactic| walk_at "dq") => `(tactic| repeat walk_at "s5")
theorem pow60 : (10 : Int) ^ (60 : Int).toNat = 10 ^ 60 := rfl
theorem pairD_eq (i : Int) (z : Str) : (D.tup [.int i, .str z]) = pairD (i, z) := rfl
theorem d_law_pairs {K : PySem.W.Frag} {a : Ad} : ∀ as Qd, as.length = 3 → (S_law_pairs a) as Qd → td_law_pairs K a (fnEnds as Qd) (as ++ List.replicate (9 - 3) .un) := by
  rintro as Qd hl ⟨ns, i, j, rfl, hn, hi, hi2, hj0, hj, q⟩
  show td_law_pairs K a (fnEnds _ Qd) [.fz (.scr ns), .fz (.int i), .fz (.int j), .un, .un, .un, .un, .un, .un]
  unfold td_law_pairs
  walk_at "dq"
  intro p
  walk_at "dq"
  refine for_inv (fun ds env => ∃ (ps : List Pr) (s4 s5 s6 s7 s8 : SD (nf a)), (∀ p ∈ ps, goodP p) ∧ (∀ d ∈ ds, ∃ k : Int, d = .int k ∧ 0 ≤ k ∧ k ≤ 63) ∧ ps.length + ds.length = (j - i).toNat ∧ env = [.fz (.scr ns), .fz (.int i), .fz (.int j), .ow (.ref p) (lstA K (nf a) (ps.map pairD)), s4, s5, s6, s7, s8]) ?_ ?_ _ _ ⟨[], .un, .un, .un, .un, .un, (fun p hp => by cases hp), (fun d hd => ?_), by simp [rangeD], rfl⟩
  · rintro y ys env R ⟨ps, s4, s5, s6, s7, s8, hg, hk, hlen, rfl⟩ hR
    obtain ⟨k, rfl, hk0, hk1⟩ := hk y List.mem_cons_self
    have hks := fun d hd => hk d (List.mem_cons_of_mem _ hd)
    rw [List.length_cons] at hlen
    walk_at "dq"
    refine ⟨ns, k, rfl, hk0, hk1, fun v s hT => ?_⟩
    obtain ⟨A, rfl⟩ := hT.is
    walk_at "dq"
    refine ⟨v, _, 0, 5, rfl, hT, by decide, by decide, by decide, fun s1 d1 hT1 hd10 hd11 => ?_⟩
    obtain ⟨A1, rfl⟩ := hT1.is
    walk_at "dq"
    refine ⟨v, _, 0 + 1, rfl, hT1, by decide, fun s2 z hT2 hz0 hz1 => ?_⟩
    obtain ⟨A2, rfl⟩ := hT2.is
    walk_at "dq"
    refine ⟨v, _, 0 + 1 + 2, rfl, hT2, by decide, fun s3 w hT3 hw => ?_⟩
    obtain ⟨A3, rfl⟩ := hT3.is
    walk_at "dq"
    with_reducible refine seqC_id ?_
    refine cutC_s (fun env => ∃ (q : Pr) (s5 s8 : SD (nf a)), goodP q ∧ env = [.fz (.scr ns), .fz (.int i), .fz (.int j), .ow (.ref p) (lstA K (nf a) (ps.map pairD)), .fz (.int k), s5, .fz (.int d1), .fz (pairD q), s8]) (fun R hR => ?_) ?_
    · have g0 : goodP (z, w) := ⟨hz0, hz1, hw⟩
      walk_at "dq"
      refine eqVP_s rfl (good_ok hg) ?_
      walk_at "dq"
      refine ite_s (fun h1 => ?_) (fun h1 => ?_)
      · walk_at "dq"
        refine ite_s (fun h2 => ?_) (fun h2 => ?_)
        · walk_at "dq"
          have hne : 0 < ps.length := by
            cases ps with
            | nil => cases h1
            | cons x xs => simp
          refine ⟨v, _, 0 + 1 + 2 + 20, (ps.map pairD).length, rfl, hT3, by decide, by simp; omega, by simp only [List.length_map]; have : (63 : Int) ≤ 10 ^ 60 := (by decide); omega, fun s4 d4 hT4 hd40 hd41 => ?_⟩
          obtain ⟨A4, rfl⟩ := hT4.is
          rw [List.length_map] at hd41
          obtain ⟨o, ho, eo, _⟩ := atI_ex hd40 hd41
          have go := hg o ho
          walk_at "dq"
          refine ixVK_s rfl (atI_map (f := pairD) eo) ?_
          walk_at "dq"
          have h2' : d1 < 3 := by simpa [cLt] using h2
          have h3 : d1 = 0 ∨ d1 = 1 ∨ d1 = 2 := by omega
          rw [show pairD o = .tup [.int o.1, .str o.2] from rfl]
          walk_at "dq"
          rcases h3 with rfl | rfl | rfl
          · refine fK_s (z := pairD o) rfl ?_
            walk_at "dq"
            exact hR _ ⟨o, _, _, go, rfl⟩
          · refine fK_s (z := pairD (o.1, w)) rfl ?_
            walk_at "dq"
            exact hR _ ⟨(o.1, w), _, _, ⟨go.1, go.2.1, hw⟩, rfl⟩
          · refine fK_s (z := pairD (z, o.2)) rfl ?_
            walk_at "dq"
            exact hR _ ⟨(z, o.2), _, _, ⟨hz0, hz1, go.2.2⟩, rfl⟩
        · walk_at "dq"
          exact hR _ ⟨(z, w), _, _, g0, rfl⟩
      · walk_at "dq"
        exact hR _ ⟨(z, w), _, _, g0, rfl⟩
    rintro _ ⟨r, s5', s8', hgr, rfl⟩
    walk_at "dq"
    refine appK_s rfl (by simp only [List.length_map]; omega) (by walk_at "dn") ?_
    refine hR _ ⟨ps ++ [r], _, _, _, _, _, fun p hp => ?_, hks, by simp; omega, by rw [List.map_append]; rfl⟩
    rcases List.mem_append.mp hp with m | m
    · exact hg p m
    · rw [List.mem_singleton.mp m]; exact hgr
  · rintro env ⟨ps, s4, s5, s6, s7, s8, hg, hk, hlen, rfl⟩
    walk_at "dq"
    refine q ps hg ?_
    simp at hlen
    split <;> omega
  · unfold rangeD at hd
    obtain ⟨m, hm, rfl⟩ := List.mem_map.mp hd
    have := List.mem_range.mp hm
    exact ⟨_, rfl, by omega, by omega⟩
/-- the list without what stands twice, as the law finds it -/
theorem asc_once {l ps : List Pr} (nd : l.Nodup) (h : ∀ p, p ∈ l ↔ p ∈ ps) : sortP l = ascP ps := by
  rw [sortP_nodup nd]
  exact ascP_ext h
theorem d_law_ascending {K : PySem.W.Frag} {a : Ad} : ∀ as Qd, as.length = 1 → (S_law_ascending a) as Qd → td_law_ascending K a (fnEnds as Qd) (as ++ List.replicate (3 - 1) .un) := by
  rintro as Qd hl ⟨ps, rfl, hg, hn, q⟩
  show td_law_ascending K a (fnEnds _ Qd) [.fz (.lst (ps.map pairD)), .un, .un]
  unfold td_law_ascending
  walk_at "dq"
  intro p
  walk_at "dq"
  refine for_inv (fun ds env => ∃ (l r : List Pr) (s2 : SD (nf a)), ds = r.map pairD ∧ l.Nodup ∧ (∀ x, x ∈ l ∨ x ∈ r ↔ x ∈ ps) ∧ l.length + r.length ≤ 1000 ∧ env = [.fz (.lst (ps.map pairD)), .ow (.ref p) (lstA K (nf a) (l.map pairD)), s2]) ?_ ?_ _ _ ⟨[], ps, .un, rfl, List.nodup_nil, (fun x => by simp), by simpa using hn, rfl⟩
  · rintro y ys env R ⟨l, r, s2, hds, nd, hm, hlen, rfl⟩ hR
    match r, hds with
    | x :: r, hds =>
      obtain ⟨rfl, rfl⟩ := List.cons.inj hds
      have gx := hg x ((hm x).mp (.inr List.mem_cons_self))
      have gl : ∀ z ∈ l, goodP z := fun z hz => hg z ((hm z).mp (.inl hz))
      rw [List.length_cons] at hlen
      walk_at "dq"
      refine inXV_s rfl gx.ok (good_ok gl) ?_
      walk_at "dq"
      refine ite_s (fun h => ?_) (fun h => ?_)
      · walk_at "dq"
        refine appK_s rfl (by simp only [List.length_map]; omega) (by walk_at "dn") ?_
        have hx : x ∉ l := by simpa using h
        refine hR _ ⟨l ++ [x], r, _, rfl, ?_, fun z => ?_, by simp; omega, by rw [List.map_append]; rfl⟩
        · rw [List.nodup_append]
          refine ⟨nd, by simp, fun u hu w hw e => ?_⟩
          rw [List.mem_singleton.mp hw] at e
          exact hx (e ▸ hu)
        · rw [← hm z]
          simp only [List.mem_append, List.mem_cons, List.not_mem_nil, or_false]
          constructor
          · rintro ((h | h) | h)
            · exact .inl h
            · exact .inr (.inl h)
            · exact .inr (.inr h)
          · rintro (h | h | h)
            · exact .inl (.inl h)
            · exact .inl (.inr h)
            · exact .inr h
      · walk_at "dq"
        have hx : x ∈ l := by simpa using h
        refine hR _ ⟨l, r, _, rfl, nd, fun z => ?_, by omega, rfl⟩
        rw [← hm z]
        simp only [List.mem_cons]
        constructor
        · rintro (h | h)
          · exact .inl h
          · exact .inr (.inr h)
        · rintro (h | h | h)
          · exact .inl h
          · subst h; exact .inl hx
          · exact .inr h
  · rintro env ⟨l, r, s2, hds, nd, hm, hlen, rfl⟩
    have hr : r = [] := by cases r with | nil => rfl | cons x r => cases hds
    subst hr
    walk_at "dq"
    rw [asc_once nd fun x => by simpa using hm x]
    exact q
end K01

namespace K01
open PySem L2 DL
open DS (Pr ltM)
local macro_rules | `(tactic| walk_at "dn") => `(tactic| first | (simp only [List.set_cons_zero, List.set_cons_succ, List.map_cons, List.map_nil, List.append_nil, List.nil_append, List.cons_append, rs_v, rs_o, pb_nil, pb_v, pb_o, back_nil, back_fz, back_un, back_ow, wp_nil, wp_cons, List.getElem?_cons_zero, List.getElem?_cons_succ, Option.getD_some, stP1, stP2, stP3]; exact rfl) | exact rfl)
local macro_rules | `(tactic| walk_at "db") => `(tactic| repeat first | exact bo_nil | refine bo_fz ?_ | refine bo_un ?_ | refine bo_ow ?_ | refine bo_fr ?_)
local macro_rules | `(tactic| walk_at "dk") => `(tactic| first | exact kb1 | exact kb2 | exact kb3 | exact kb4 | exact kb5 | exact kb6)
local macro_rules | `(tactic| walk_at "da") => `(tactic| first | assumption | omega | decide | (exact Or.inl ⟨by omega, by omega⟩) | (exact Or.inr ⟨by omega, by omega⟩) | (exact ⟨by decide, by decide⟩) | (exact ⟨by decide, by decide, by omega⟩))
local macro_rules | `(tactic| walk_at "s1") => `(tactic| first
  | with_reducible refine sNext_s ?_
  | with_reducible refine sSeq_s ?_
  | with_reducible refine sBrk_s ?_
  | with_reducible refine sCnt_s ?_
  | with_reducible refine sIf_s ?_
  | with_reducible refine sRet_s ?_
  | with_reducible refine sRetN_s ?_
  | with_reducible refine sDrop_s ?_
  | with_reducible refine sSet_s ?_
  | with_reducible refine sAsg_s ?_
  | with_reducible refine gsNil_s ?_
  | with_reducible refine gsCons_s ?_
  | with_reducible refine sSetL_s ?_
  | with_reducible refine sSetDD_s ?_
  | with_reducible refine sDPutV_s ?_
  | with_reducible refine dC_s ?_
  | with_reducible refine dBv_s ?_
  | with_reducible refine bvK_s ?_
  | with_reducible refine dNot_s ?_
  | with_reducible refine dAnd_s ?_
  | with_reducible refine dOr_s ?_
  | with_reducible refine dYes_s ?_
  | with_reducible refine dAndV_s ?_
  | with_reducible refine dOrV_s ?_
  | with_reducible refine dNotV_s ?_
  | with_reducible refine andVK_s ?_
  | with_reducible refine orVK_s ?_
  | with_reducible refine notVK_s ?_
  | with_reducible refine dIf_s ?_
  | with_reducible refine dIsN_s ?_
  | with_reducible refine aNil_s ?_
  | with_reducible refine aCons_s ?_
  | with_reducible refine dTup_s ?_
  | with_reducible refine dLst_s ?_
  | with_reducible refine dD0_s ?_
  | with_reducible refine dOp_s ?_
  | with_reducible refine dAdd_s ?_
  | with_reducible refine dSub_s ?_
  | with_reducible refine dMul_s ?_
  | with_reducible refine dMod_s ?_
  | with_reducible refine dDiv_s ?_
  | with_reducible refine dPow_s ?_
  | with_reducible refine dCmp_s ?_
  | with_reducible refine opI0_s ?_
  | with_reducible refine dEqG_s ?_
  | with_reducible refine dF_s ?_
  | with_reducible refine addI_s ?_
  | with_reducible refine inS_s ?_
  | with_reducible refine dChain_s ?_
  | with_reducible refine chK_s ?_
  | with_reducible refine chK2_s ?_
  | with_reducible refine dCB_s ?_
  | with_reducible refine cbInt_s ?_
  | with_reducible refine cbIntB_s ?_
  | with_reducible refine cbAbs_s ?_
  | with_reducible refine cbLenL_s ?_
  | with_reducible refine cbLenT_s ?_
  | with_reducible refine cbLenD_s ?_
  | with_reducible refine cbList_s ?_
  | with_reducible refine cbListT_s ?_
  | with_reducible refine cbTuple_s ?_
  | with_reducible refine cbTupleT_s ?_
  | with_reducible refine cbDict_s ?_
  | with_reducible refine cbListD_s ?_
  | with_reducible refine dSortS_s ?_
  | with_reducible refine dItems_s ?_
  | with_reducible refine itemsK_s ?_
  | with_reducible refine dDS2_s ?_
  | with_reducible refine dS2K_s ?_
  | with_reducible refine dSplit_s ?_
  | with_reducible refine splK_s ?_
  | with_reducible refine dJoin_s ?_
  | with_reducible refine joinK_s ?_
  | with_reducible refine oNone_s ?_
  | with_reducible refine oSome_s ?_
  | with_reducible refine ok'_s ?_
  | with_reducible refine dSlS_s ?_
  | with_reducible refine dSlL_s ?_
  | with_reducible refine slLK_s ?_
  | with_reducible refine dFld_s ?_
  | with_reducible refine mNil_s ?_
  | with_reducible refine mVal_s ?_
  | with_reducible refine dCall_s ?_
  | with_reducible refine dMeth_s ?_
  | with_reducible refine dMake_s ?_
  | with_reducible refine dOwnOp_s ?_
  | with_reducible refine sStS_s ?_
  | with_reducible refine sCallO_s ?_
  | with_reducible refine sFldS_s ?_
  | with_reducible refine sFor_s ?_
  | with_reducible refine forCons_s ?_
  | with_reducible refine forNil_s ?_
  | with_reducible refine iL_s ?_
  | with_reducible refine ilK_s ?_
  | with_reducible refine ilS_s ?_
  | with_reducible refine iT_s ?_
  | with_reducible refine itK_s ?_
  | with_reducible refine iS_s ?_
  | with_reducible refine isK_s ?_
  | with_reducible refine iK_s ?_
  | with_reducible refine ikK_s ?_
  | with_reducible refine iKV_s ?_
  | with_reducible refine ikvK_s ?_
  | with_reducible refine iR1_s ?_
  | with_reducible refine iR2_s ?_
  | with_reducible refine dLc_s ?_
  | with_reducible refine dDc_s ?_
  | with_reducible refine dInV_s ?_
  | with_reducible refine dEqDG_s ?_
  | with_reducible refine dIsB_s ?_
  | with_reducible refine isBF_s ?_
  | with_reducible refine isBT_s ?_
  | ((with_reducible refine' dVar_s ?e0 ?_); (case e0 => exact rfl))
  | ((with_reducible refine' dVarQf_s ?e0 ?_); (case e0 => exact rfl))
  | ((with_reducible refine' dVarQo_s ?e0 ?e1 ?_); (case e0 => exact rfl); (case e1 => walk_at "dn"))
  | ((with_reducible refine' dPopV_s ?e0 ?_); (case e0 => exact rfl))
  | ((with_reducible refine' setK_s ?e0 ?e1 ?_); (case e0 => exact rfl); (case e1 => walk_at "dn"))
  | ((with_reducible refine' gN_s ?e0 ?e1 ?_); (case e0 => exact rfl); (case e1 => walk_at "dn"))
  | ((with_reducible refine' gT_s ?e0 ?_); (case e0 => exact rfl))
  | ((with_reducible refine' setL_s ?e0 ?e1 ?e2 ?_); (case e0 => exact rfl); (case e1 => exact rfl); (case e2 => (intro p; walk_at "dn")))
  | ((with_reducible refine' sSetD0_s ?e0 ?e1 ?_); (case e0 => exact rfl); (case e1 => (intro p; walk_at "dn")))
  | ((with_reducible refine' setDD_s ?e0 ?e1 ?_); (case e0 => exact rfl); (case e1 => (intro p; walk_at "dn")))
  | ((with_reducible refine' appW_s ?e0 ?_); (case e0 => exact rfl))
  | ((with_reducible refine' dVarF_s ?e0 ?e1 ?_); (case e0 => exact rfl); (case e1 => walk_at "dn"))
  | ((with_reducible refine' dVarFD_s ?e0 ?e1 ?_); (case e0 => exact rfl); (case e1 => walk_at "dn"))
  | ((with_reducible refine' dPutK_s ?e0 ?_); (case e0 => exact rfl))
  | ((with_reducible refine' lenQ_s ?e0 ?_); (case e0 => exact rfl))
  | ((with_reducible refine' opI_s ?e0 ?_); (case e0 => walk_at "da"))
  | ((with_reducible refine' eqF_s ?e0 ?_); (case e0 => exact rfl))
  | ((with_reducible refine' eqT_s ?e0 ?_); (case e0 => exact rfl))
  | ((with_reducible refine' fldK_s ?e0 ?_); (case e0 => exact rfl))
  | ((with_reducible refine' mSlot_s ?e0 ?e1 ?_); (case e0 => exact rfl); (case e1 => trivial))
  | ((with_reducible refine' callK_s ?e0 ?e1 ?e2 ?e3 ?e4 ?_); (case e0 => exact rfl); (case e1 => walk_at "dn"); (case e2 => exact rfl); (case e3 => exact rfl); (case e4 => walk_at "dn"))
  | ((with_reducible refine' methK_s ?e0 ?_); (case e0 => exact rfl))
  | ((with_reducible refine' methK2_s ?e0 ?e1 ?e2 ?e3 ?e4 ?_); (case e0 => exact rfl); (case e1 => walk_at "dn"); (case e2 => exact rfl); (case e3 => exact rfl); (case e4 => walk_at "dn"))
  | ((with_reducible refine' putK_s ?e0 ?_); (case e0 => walk_at "dn"))
  | ((with_reducible refine' mkK_s ?e0 ?_); (case e0 => walk_at "dn"))
  | ((with_reducible refine' callOK_s ?e0 ?e1 ?e2 ?e3 ?e4 ?e5 ?_); (case e0 => exact rfl); (case e1 => walk_at "dn"); (case e2 => exact rfl); (case e3 => exact rfl); (case e4 => exact rfl); (case e5 => walk_at "dn"))
  | ((with_reducible refine' putOK_s ?e0 ?_); (case e0 => walk_at "dn"))
  | ((with_reducible refine' dStI_s ?e0 ?e1 ?_); (case e0 => exact rfl); (case e1 => exact rfl))
  | ((with_reducible refine' dStN_s ?e0 ?_); (case e0 => exact rfl))
  | ((with_reducible refine' stSK_s ?e0 ?e1 ?e2 ?e3 ?_); (case e0 => exact rfl); (case e1 => exact rfl); (case e2 => walk_at "dn"); (case e3 => walk_at "dn"))
  | ((with_reducible refine' sStG_s ?e0 ?e1 ?e2 ?_); (case e0 => exact rfl); (case e1 => exact rfl); (case e2 => exact rfl))
  | ((with_reducible refine' stGK_s ?e0 ?e1 ?e2 ?_); (case e0 => exact rfl); (case e1 => walk_at "dn"); (case e2 => walk_at "dn"))
  | ((with_reducible refine' sStPop_s ?e0 ?e1 ?_); (case e0 => exact rfl); (case e1 => walk_at "dn"))
  | ((with_reducible refine' sRetSt_s ?e0 ?_); (case e0 => exact rfl))
  | ((with_reducible refine' retStK_s ?e0 ?e1 ?_); (case e0 => exact rfl); (case e1 => walk_at "dn"))
  | ((with_reducible refine' iteT_s ?e0 ?_); (case e0 => (first | exact rfl | assumption)))
  | ((with_reducible refine' iteF_s ?e0 ?_); (case e0 => (first | exact rfl | assumption)))
  | ((with_reducible refine' isiStr_s ?e0 ?_); (case e0 => walk_at "dk"))
  | ((with_reducible refine' isiInt_s ?e0 ?_); (case e0 => walk_at "dk"))
  | ((with_reducible refine' isiDct_s ?e0 ?_); (case e0 => walk_at "dk"))
  | ((with_reducible refine' splK2_s ?e0 ?e1 ?_); (case e0 => decide); (case e1 => decide))
  | ((with_reducible refine' addS_s ?e0 ?_); (case e0 => walk_at "da"))
  | ((with_reducible refine' addL_s ?e0 ?_); (case e0 => walk_at "da"))
  | ((with_reducible refine' cbLenS_s ?e0 ?_); (case e0 => walk_at "da"))
  | ((with_reducible refine' slSK_s ?e0 ?_); (case e0 => walk_at "da"))
  | ((with_reducible refine' lcK_s ?e0 ?_); (case e0 => walk_at "dn"))
  | ((with_reducible refine' dcK_s ?e0 ?_); (case e0 => walk_at "dn"))
  | ((with_reducible refine' makeK_s ?e0 ?e1 ?e2 ?e3 ?e4 ?e5 ?_); (case e0 => exact rfl); (case e1 => walk_at "dn"); (case e2 => walk_at "dz"); (case e3 => exact rfl); (case e4 => exact rfl); (case e5 => walk_at "dn"))
  | ((with_reducible refine' ir1K_s ?e0 ?_); (case e0 => walk_at "da"))
  | ((with_reducible refine' ir2K_s ?e0 ?_); (case e0 => walk_at "da"))
  | ((with_reducible refine' fnRt_s ?e0 ?e1 ?_); (case e0 => walk_at "db"); (case e1 => walk_at "dn"))
  | ((with_reducible refine' fnNx_s ?e0 ?e1 ?_); (case e0 => walk_at "db"); (case e1 => walk_at "dn"))
  | ((with_reducible refine' fnRo_s ?e0 ?e1 ?_); (case e0 => walk_at "db"); (case e1 => walk_at "dn"))
  | ((with_reducible refine' fnRtO_s ?e0 ?e1 ?_); (case e0 => walk_at "db"); (case e1 => walk_at "dn")))
local macro_rules | `(tactic| walk_at "ds") => `(tactic| repeat walk_at "s1")
local macro_rules | `(tactic| walk_at "s2") => `(tactic| first
  | walk_at "s1"
  | with_reducible refine dMkV_s ?_
  | with_reducible refine mkV1_s ?_
  | with_reducible refine mkV2_s ?_
  | with_reducible refine dMkV0_s ?_
  | with_reducible refine dExG_s ?_
  | ((with_reducible refine' exG1_s ?e0 ?e1 ?_); (case e0 => assumption); (case e1 => exact rfl))
  | ((with_reducible refine' exG2_s ?e0 ?e1 ?_); (case e0 => assumption); (case e1 => exact rfl))
  | ((with_reducible refine' exG3_s ?e0 ?e1 ?_); (case e0 => assumption); (case e1 => exact rfl))
  | with_reducible refine dD1_s ?_
  | with_reducible refine dNeg_s ?_
  | ((with_reducible refine' sAugI_s ?e0 ?_); (case e0 => exact rfl))
  | ((with_reducible refine' augK_s ?e0 ?e1 ?_); (case e0 => exact rfl); (case e1 => walk_at "dn"))
  | with_reducible refine dIxR_s ?_
  | with_reducible refine lenR_s ?_
  | with_reducible refine dNeS_s ?_
  | ((with_reducible refine' dIxV_s ?e0 ?_); (case e0 => exact rfl))
  | ((with_reducible refine' ixVK_s ?e0 ?e1 ?_); (case e0 => exact rfl); (case e1 => exact rfl))
  | with_reducible refine sLPut_s ?_
  | ((with_reducible refine' lPutK_s ?e0 ?_); (case e0 => exact rfl))
  | ((with_reducible refine' lPutK2_s ?e0 ?e1 ?e2 ?_); (case e0 => exact rfl); (case e1 => exact rfl); (case e2 => walk_at "dn"))
  | ((with_reducible refine' sLAug_s ?e0 ?e1 ?e2 ?_); (case e0 => exact rfl); (case e1 => decide); (case e2 => exact rfl))
  | ((with_reducible refine' lAugK_s ?e0 ?e1 ?e2 ?_); (case e0 => exact rfl); (case e1 => exact rfl); (case e2 => walk_at "dn"))
  | with_reducible refine sRetL_s ?_
  | ((with_reducible refine' ixL_s ?e0 ?_); (case e0 => exact rfl))
  | ((with_reducible refine' addLb_s ?e0 ?_); (case e0 => exact rfl)))
local macro_rules | `(tactic| walk_at "dt") => `(tactic| repeat walk_at "s2")
local macro_rules | `(tactic| walk_at "s5") => `(tactic| first
  | walk_at "s2"
  | with_reducible refine dCatT_s ?_
  | with_reducible refine dInX_s ?_
  | with_reducible refine dInXV_s ?_
  | with_reducible refine dSortM_s ?_
  | with_reducible refine sortMK_s ?_
  | with_reducible refine dSortSet_s ?_
  | with_reducible refine iQ_s ?_
  | with_reducible refine iqL_s ?_
  | with_reducible refine iqT_s ?_
  | with_reducible refine dOwnE_s ?_
  | with_reducible refine minK_s ?_
  | with_reducible refine maxK_s ?_
  | with_reducible refine min3K_s ?_
  | ((with_reducible refine' ixT_s ?e0 ?_); (case e0 => exact rfl))
  | ((with_reducible refine' dEqV_s ?e0 ?_); (case e0 => exact rfl))
  | ((with_reducible refine' dLenV_s ?e0 ?_); (case e0 => exact rfl))
  | ((with_reducible refine' isiTup_s ?e0 ?_); (case e0 => exact kb7)))
local macro_rules | `(tactic| walk_at "dq") => `(tactic| repeat walk_at "s5")
local macro_rules | `(tactic| walk_at "s6") => `(tactic| first
  | walk_at "s5"
  | with_reducible refine dPart_s ?_
  | with_reducible refine partK_s ?_
  | with_reducible refine dCMeth_s ?_
  | with_reducible refine cmethK_s ?_
  | ((with_reducible refine' cmethK2_s ?e0 ?e1 ?e2 ?e3 ?e4 ?_); (case e0 => exact rfl); (case e1 => walk_at "dn"); (case e2 => exact rfl); (case e3 => exact rfl); (case e4 => walk_at "dn"))
  | ((with_reducible refine' dMakeL_s ?e0 ?_); (case e0 => exact rfl))
  | with_reducible refine dFmt_s ?_
  | with_reducible refine dJoined_s ?_
  | with_reducible refine jCons_s ?_
  | with_reducible refine jNil_s ?_
  | with_reducible refine dOwn1_s ?_
  | with_reducible refine own1K_s ?_
  | with_reducible refine dCallT_s ?_
  | ((with_reducible refine' callT1_s ?e0 ?e1 ?e2 ?e3 ?_); (case e0 => exact rfl); (case e1 => exact rfl); (case e2 => exact rfl); (case e3 => walk_at "dn"))
  | ((with_reducible refine' callT4_s ?e0 ?_); (case e0 => walk_at "dn"))
  | ((with_reducible refine' callT2_s ?e0 ?e1 ?e2 ?e3 ?_); (case e0 => exact rfl); (case e1 => exact rfl); (case e2 => exact rfl); (case e3 => walk_at "dn"))
  | ((with_reducible refine' callT3_s ?e0 ?_); (case e0 => walk_at "dn"))
  | with_reducible refine sSetLL_s ?_
  | ((with_reducible refine' setLL_s ?e0 ?e1 ?_); (case e0 => exact rfl); (case e1 => (intro p; walk_at "dn")))
  | ((with_reducible refine' sClear_s ?e0 ?e1 ?_); (case e0 => exact rfl); (case e1 => walk_at "dn"))
  | with_reducible refine dCMethS_s ?_
  | with_reducible refine cmethSK_s ?_
  | ((with_reducible refine' cmethSK2_s ?e0 ?_); (case e0 => exact rfl))
  | with_reducible refine dLstRev_s ?_
  | with_reducible refine lstRevK_s ?_
  | with_reducible refine dTupRev_s ?_
  | with_reducible refine tupRevK_s ?_
  | with_reducible refine dInOwn_s ?_
  | with_reducible refine dNinOwn_s ?_
  | with_reducible refine inOwnK_s ?_)
local macro_rules | `(tactic| walk_at "dr") => `(tactic| repeat walk_at "s6")
local macro_rules | `(tactic| walk_at "dz") => `(tactic| (simp [nf]; done))
theorem plain_at {l : List Pr} (h : ∀ p ∈ l, goodP p) (n : Int) : plainB (.tup (atL l n)) = true ∧ depD (.tup (atL l n)) ≤ 64 := by
  constructor
  · show plainsB _ = true
    rw [plains_iff]
    intro x hx
    obtain ⟨p, hp, rfl⟩ := List.mem_map.mp hx
    have := (h p (List.mem_filter.mp hp).1).ok
    simpa [plainB, okP] using this
  · have : depsD (atL l n) ≤ 1 := by
      rw [deps_le]
      intro x hx
      obtain ⟨p, hp, rfl⟩ := List.mem_map.mp hx
      simp [depD]
    simp only [depD]
    omega
def fstD : D → D
  | .tup [x, _] => x
  | _ => .non
theorem fst_map (l : List Pr) : (l.map pairD).map fstD = (l.map fun p : Pr => p.1).map D.int := by rw [List.map_map, List.map_map]; rfl
theorem d_law_agrees {K : PySem.W.Frag} {a : Ad} (iC : IsiC K a.C_Captures) : ∀ as Qd, as.length = 2 → (S_law_agrees a) as Qd → td_law_agrees K a (fnEnds as Qd) (as ++ List.replicate (5 - 2) .un) := by
  rintro as Qd hl ⟨l, rfl, hg, hn, q⟩
  show td_law_agrees K a (fnEnds _ Qd) [.fz (capD a l), .fz (rowD l), .un, .un, .un]
  obtain ⟨pl1, pl2⟩ := plain_pairs (good_ok hg)
  unfold td_law_agrees
  walk_at "dr"
  refine isiOwn_s iC ?_
  walk_at "dr"
  refine neRefl_s rfl (by simpa [plainB] using pl1) (by simp only [depD]; omega) ?_
  walk_at "dr"
  refine ⟨l, rfl, hn, ⟨_, rfl, by omega, by omega⟩, ?_⟩
  walk_at "dr"
  rw [List.length_map, decide_eq_true (rfl : (l.length : Int) = l.length)]
  walk_at "dr"
  refine ⟨l, rfl, hn, ⟨_, rfl⟩, ?_⟩
  walk_at "dr"
  rw [List.length_map, decide_eq_true (rfl : cGt (l.length : Int) 0 = cGt (l.length : Int) 0)]
  walk_at "dr"
  refine lc_map fstD rfl (fun x hx R r => ?_) (by simp; omega) ?_
  · obtain ⟨p, hp, rfl⟩ := List.mem_map.mp hx
    simp only [List.set_cons_zero, List.set_cons_succ] at r ⊢
    rw [show pairD p = .tup [.int p.1, .str p.2] from rfl] at r ⊢
    walk_at "dr"
    exact r
  rw [fst_map]
  walk_at "dr"
  refine addL_s (by simp only [List.length_map, List.length_cons, List.length_nil]; omega) ?_
  rw [show ((l.map fun p : Pr => p.1).map D.int ++ [D.int 0, .int 13, .int (10 ^ (60 : Int).toNat)]) = ((l.map fun p : Pr => p.1) ++ [0, 13, 10 ^ (60 : Int).toNat]).map D.int from by rw [List.map_append]; rfl]
  generalize (l.map fun p : Pr => p.1) ++ [0, 13, 10 ^ (60 : Int).toNat] = ks
  walk_at "dr"
  refine for_inv (fun ds env => ∃ (r : List Int) (s4 : SD (nf a)), ds = r.map D.int ∧ env = [.fz (capD a l), .fz (rowD l), .fz (.lst (ks.map D.int)), .un, s4]) ?_ ?_ _ _ ⟨ks, .un, rfl, rfl⟩
  · rintro y ys env R ⟨r, s4, hds, rfl⟩ hR
    match r, hds with
    | n :: r, hds =>
      obtain ⟨rfl, rfl⟩ := List.cons.inj hds
      walk_at "dr"
      refine ⟨l, n, rfl, hn, ?_⟩
      walk_at "dr"
      refine lc_pure (numB n) sndD rfl (fun x hx R r => ?_) (fun x hx _ R r => ?_) (by simp; omega) ?_
      · obtain ⟨p, hp, rfl⟩ := List.mem_map.mp hx
        simp only [List.set_cons_zero, List.set_cons_succ] at r ⊢
        rw [show pairD p = .tup [.int p.1, .str p.2] from rfl] at r ⊢
        walk_at "dr"
        exact r
      · obtain ⟨p, hp, rfl⟩ := List.mem_map.mp hx
        simp only [List.set_cons_zero, List.set_cons_succ] at r ⊢
        rw [show pairD p = .tup [.int p.1, .str p.2] from rfl] at r ⊢
        walk_at "dr"
        exact r
      rw [List.nil_append, at_map]
      walk_at "dr"
      refine neRefl_s rfl (plain_at hg n).1 (plain_at hg n).2 ?_
      walk_at "dr"
      exact hR _ ⟨r, _, rfl, rfl⟩
  · rintro env ⟨r, s4, hds, rfl⟩
    walk_at "dr"
    exact q
end K01

namespace K01
open PySem L2 DL
open DS (Pr ltM)
local macro_rules | `(tactic| walk_at "dn") => `(tactic| first | (simp only [List.set_cons_zero, List.set_cons_succ, List.map_cons, List.map_nil, List.append_nil, List.nil_append, List.cons_append, rs_v, rs_o, pb_nil, pb_v, pb_o, back_nil, back_fz, back_un, back_ow, wp_nil, wp_cons, List.getElem?_cons_zero, List.getElem?_cons_succ, Option.getD_some, stP1, stP2, stP3]; exact rfl) | exact rfl)
local macro_rules | `(tactic| walk_at "db") => `(tactic| repeat first | exact bo_nil | refine bo_fz ?_ | refine bo_un ?_ | refine bo_ow ?_ | refine bo_fr ?_)
local macro_rules | `(tactic| walk_at "dk") => `(tactic| first | exact kb1 | exact kb2 | exact kb3 | exact kb4 | exact kb5 | exact kb6)
local macro_rules | `(tactic| walk_at "da") => `(tactic| first | assumption | omega | decide | (exact Or.inl ⟨by omega, by omega⟩) | (exact Or.inr ⟨by omega, by omega⟩) | (exact ⟨by decide, by decide⟩) | (exact ⟨by decide, by decide, by omega⟩))
local macro_rules | `(tactic| walk_at "s1") => `(tactic| first
  | with_reducible refine sNext_s ?_
  | with_reducible refine sSeq_s ?_
  | with_reducible refine sBrk_s ?_
  | with_reducible refine sCnt_s ?_
  | with_reducible refine sIf_s ?_
  | with_reducible refine sRet_s ?_
  | with_reducible refine sRetN_s ?_
  | with_reducible refine sDrop_s ?_
  | with_reducible refine sSet_s ?_
  | with_reducible refine sAsg_s ?_
  | with_reducible refine gsNil_s ?_
  | with_reducible refine gsCons_s ?_
  | with_reducible refine sSetL_s ?_
  | with_reducible refine sSetDD_s ?_
  | with_reducible refine sDPutV_s ?_
  | with_reducible refine dC_s ?_
  | with_reducible refine dBv_s ?_
  | with_reducible refine bvK_s ?_
  | with_reducible refine dNot_s ?_
  | with_reducible refine dAnd_s ?_
  | with_reducible refine dOr_s ?_
  | with_reducible refine dYes_s ?_
  | with_reducible refine dAndV_s ?_
  | with_reducible refine dOrV_s ?_
  | with_reducible refine dNotV_s ?_
  | with_reducible refine andVK_s ?_
  | with_reducible refine orVK_s ?_
  | with_reducible refine notVK_s ?_
  | with_reducible refine dIf_s ?_
  | with_reducible refine dIsN_s ?_
  | with_reducible refine aNil_s ?_
  | with_reducible refine aCons_s ?_
  | with_reducible refine dTup_s ?_
  | with_reducible refine dLst_s ?_
  | with_reducible refine dD0_s ?_
  | with_reducible refine dOp_s ?_
  | with_reducible refine dAdd_s ?_
  | with_reducible refine dSub_s ?_
  | with_reducible refine dMul_s ?_
  | with_reducible refine dMod_s ?_
  | with_reducible refine dDiv_s ?_
  | with_reducible refine dPow_s ?_
  | with_reducible refine dCmp_s ?_
  | with_reducible refine opI0_s ?_
  | with_reducible refine dEqG_s ?_
  | with_reducible refine dF_s ?_
  | with_reducible refine addI_s ?_
  | with_reducible refine inS_s ?_
  | with_reducible refine dChain_s ?_
  | with_reducible refine chK_s ?_
  | with_reducible refine chK2_s ?_
  | with_reducible refine dCB_s ?_
  | with_reducible refine cbInt_s ?_
  | with_reducible refine cbIntB_s ?_
  | with_reducible refine cbAbs_s ?_
  | with_reducible refine cbLenL_s ?_
  | with_reducible refine cbLenT_s ?_
  | with_reducible refine cbLenD_s ?_
  | with_reducible refine cbList_s ?_
  | with_reducible refine cbListT_s ?_
  | with_reducible refine cbTuple_s ?_
  | with_reducible refine cbTupleT_s ?_
  | with_reducible refine cbDict_s ?_
  | with_reducible refine cbListD_s ?_
  | with_reducible refine dSortS_s ?_
  | with_reducible refine dItems_s ?_
  | with_reducible refine itemsK_s ?_
  | with_reducible refine dDS2_s ?_
  | with_reducible refine dS2K_s ?_
  | with_reducible refine dSplit_s ?_
  | with_reducible refine splK_s ?_
  | with_reducible refine dJoin_s ?_
  | with_reducible refine joinK_s ?_
  | with_reducible refine oNone_s ?_
  | with_reducible refine oSome_s ?_
  | with_reducible refine ok'_s ?_
  | with_reducible refine dSlS_s ?_
  | with_reducible refine dSlL_s ?_
  | with_reducible refine slLK_s ?_
  | with_reducible refine dFld_s ?_
  | with_reducible refine mNil_s ?_
  | with_reducible refine mVal_s ?_
  | with_reducible refine dCall_s ?_
  | with_reducible refine dMeth_s ?_
  | with_reducible refine dMake_s ?_
  | with_reducible refine dOwnOp_s ?_
  | with_reducible refine sStS_s ?_
  | with_reducible refine sCallO_s ?_
  | with_reducible refine sFldS_s ?_
  | with_reducible refine sFor_s ?_
  | with_reducible refine forCons_s ?_
  | with_reducible refine forNil_s ?_
  | with_reducible refine iL_s ?_
  | with_reducible refine ilK_s ?_
  | with_reducible refine ilS_s ?_
  | with_reducible refine iT_s ?_
  | with_reducible refine itK_s ?_
  | with_reducible refine iS_s ?_
  | with_reducible refine isK_s ?_
  | with_reducible refine iK_s ?_
  | with_reducible refine ikK_s ?_
  | with_reducible refine iKV_s ?_
  | with_reducible refine ikvK_s ?_
  | with_reducible refine iR1_s ?_
  | with_reducible refine iR2_s ?_
  | with_reducible refine dLc_s ?_
  | with_reducible refine dDc_s ?_
  | with_reducible refine dInV_s ?_
  | with_reducible refine dEqDG_s ?_
  | with_reducible refine dIsB_s ?_
  | with_reducible refine isBF_s ?_
  | with_reducible refine isBT_s ?_
  | ((with_reducible refine' dVar_s ?e0 ?_); (case e0 => exact rfl))
  | ((with_reducible refine' dVarQf_s ?e0 ?_); (case e0 => exact rfl))
  | ((with_reducible refine' dVarQo_s ?e0 ?e1 ?_); (case e0 => exact rfl); (case e1 => walk_at "dn"))
  | ((with_reducible refine' dPopV_s ?e0 ?_); (case e0 => exact rfl))
  | ((with_reducible refine' setK_s ?e0 ?e1 ?_); (case e0 => exact rfl); (case e1 => walk_at "dn"))
  | ((with_reducible refine' gN_s ?e0 ?e1 ?_); (case e0 => exact rfl); (case e1 => walk_at "dn"))
  | ((with_reducible refine' gT_s ?e0 ?_); (case e0 => exact rfl))
  | ((with_reducible refine' setL_s ?e0 ?e1 ?e2 ?_); (case e0 => exact rfl); (case e1 => exact rfl); (case e2 => (intro p; walk_at "dn")))
  | ((with_reducible refine' sSetD0_s ?e0 ?e1 ?_); (case e0 => exact rfl); (case e1 => (intro p; walk_at "dn")))
  | ((with_reducible refine' setDD_s ?e0 ?e1 ?_); (case e0 => exact rfl); (case e1 => (intro p; walk_at "dn")))
  | ((with_reducible refine' appW_s ?e0 ?_); (case e0 => exact rfl))
  | ((with_reducible refine' dVarF_s ?e0 ?e1 ?_); (case e0 => exact rfl); (case e1 => walk_at "dn"))
  | ((with_reducible refine' dVarFD_s ?e0 ?e1 ?_); (case e0 => exact rfl); (case e1 => walk_at "dn"))
  | ((with_reducible refine' dPutK_s ?e0 ?_); (case e0 => exact rfl))
  | ((with_reducible refine' lenQ_s ?e0 ?_); (case e0 => exact rfl))
  | ((with_reducible refine' opI_s ?e0 ?_); (case e0 => walk_at "da"))
  | ((with_reducible refine' eqF_s ?e0 ?_); (case e0 => exact rfl))
  | ((with_reducible refine' eqT_s ?e0 ?_); (case e0 => exact rfl))
  | ((with_reducible refine' fldK_s ?e0 ?_); (case e0 => exact rfl))
  | ((with_reducible refine' mSlot_s ?e0 ?e1 ?_); (case e0 => exact rfl); (case e1 => trivial))
  | ((with_reducible refine' callK_s ?e0 ?e1 ?e2 ?e3 ?e4 ?_); (case e0 => exact rfl); (case e1 => walk_at "dn"); (case e2 => exact rfl); (case e3 => exact rfl); (case e4 => walk_at "dn"))
  | ((with_reducible refine' methK_s ?e0 ?_); (case e0 => exact rfl))
  | ((with_reducible refine' methK2_s ?e0 ?e1 ?e2 ?e3 ?e4 ?_); (case e0 => exact rfl); (case e1 => walk_at "dn"); (case e2 => exact rfl); (case e3 => exact rfl); (case e4 => walk_at "dn"))
  | ((with_reducible refine' putK_s ?e0 ?_); (case e0 => walk_at "dn"))
  | ((with_reducible refine' mkK_s ?e0 ?_); (case e0 => walk_at "dn"))
  | ((with_reducible refine' callOK_s ?e0 ?e1 ?e2 ?e3 ?e4 ?e5 ?_); (case e0 => exact rfl); (case e1 => walk_at "dn"); (case e2 => exact rfl); (case e3 => exact rfl); (case e4 => exact rfl); (case e5 => walk_at "dn"))
  | ((with_reducible refine' putOK_s ?e0 ?_); (case e0 => walk_at "dn"))
  | ((with_reducible refine' dStI_s ?e0 ?e1 ?_); (case e0 => exact rfl); (case e1 => exact rfl))
  | ((with_reducible refine' dStN_s ?e0 ?_); (case e0 => exact rfl))
  | ((with_reducible refine' stSK_s ?e0 ?e1 ?e2 ?e3 ?_); (case e0 => exact rfl); (case e1 => exact rfl); (case e2 => walk_at "dn"); (case e3 => walk_at "dn"))
  | ((with_reducible refine' sStG_s ?e0 ?e1 ?e2 ?_); (case e0 => exact rfl); (case e1 => exact rfl); (case e2 => exact rfl))
  | ((with_reducible refine' stGK_s ?e0 ?e1 ?e2 ?_); (case e0 => exact rfl); (case e1 => walk_at "dn"); (case e2 => walk_at "dn"))
  | ((with_reducible refine' sStPop_s ?e0 ?e1 ?_); (case e0 => exact rfl); (case e1 => walk_at "dn"))
  | ((with_reducible refine' sRetSt_s ?e0 ?_); (case e0 => exact rfl))
  | ((with_reducible refine' retStK_s ?e0 ?e1 ?_); (case e0 => exact rfl); (case e1 => walk_at "dn"))
  | ((with_reducible refine' iteT_s ?e0 ?_); (case e0 => (first | exact rfl | assumption)))
  | ((with_reducible refine' iteF_s ?e0 ?_); (case e0 => (first | exact rfl | assumption)))
  | ((with_reducible refine' isiStr_s ?e0 ?_); (case e0 => walk_at "dk"))
  | ((with_reducible refine' isiInt_s ?e0 ?_); (case e0 => walk_at "dk"))
  | ((with_reducible refine' isiDct_s ?e0 ?_); (case e0 => walk_at "dk"))
  | ((with_reducible refine' splK2_s ?e0 ?e1 ?_); (case e0 => decide); (case e1 => decide))
  | ((with_reducible refine' addS_s ?e0 ?_); (case e0 => walk_at "da"))
  | ((with_reducible refine' addL_s ?e0 ?_); (case e0 => walk_at "da"))
  | ((with_reducible refine' cbLenS_s ?e0 ?_); (case e0 => walk_at "da"))
  | ((with_reducible refine' slSK_s ?e0 ?_); (case e0 => walk_at "da"))
  | ((with_reducible refine' lcK_s ?e0 ?_); (case e0 => walk_at "dn"))
  | ((with_reducible refine' dcK_s ?e0 ?_); (case e0 => walk_at "dn"))
  | ((with_reducible refine' makeK_s ?e0 ?e1 ?e2 ?e3 ?e4 ?e5 ?_); (case e0 => exact rfl); (case e1 => walk_at "dn"); (case e2 => walk_at "dz"); (case e3 => exact rfl); (case e4 => exact rfl); (case e5 => walk_at "dn"))
  | ((with_reducible refine' ir1K_s ?e0 ?_); (case e0 => walk_at "da"))
  | ((with_reducible refine' ir2K_s ?e0 ?_); (case e0 => walk_at "da"))
  | ((with_reducible refine' fnRt_s ?e0 ?e1 ?_); (case e0 => walk_at "db"); (case e1 => walk_at "dn"))
  | ((with_reducible refine' fnNx_s ?e0 ?e1 ?_); (case e0 => walk_at "db"); (case e1 => walk_at "dn"))
  | ((with_reducible refine' fnRo_s ?e0 ?e1 ?_); (case e0 => walk_at "db"); (case e1 => walk_at "dn"))
  | ((with_reducible refine' fnRtO_s ?e0 ?e1 ?_); (case e0 => walk_at "db"); (case e1 => walk_at "dn")))
local macro_rules | `(tactic| walk_at "ds") => `(tactic| repeat walk_at "s1")
local macro_rules | `(tactic| walk_at "s2") => `(tactic| first
  | walk_at "s1"
  | with_reducible refine dMkV_s ?_
  | with_reducible refine mkV1_s ?_
  | with_reducible refine mkV2_s ?_
  | with_reducible refine dMkV0_s ?_
  | with_reducible refine dExG_s ?_
  | ((with_reducible refine' exG1_s ?e0 ?e1 ?_); (case e0 => assumption); (case e1 => exact rfl))
  | ((with_reducible refine' exG2_s ?e0 ?e1 ?_); (case e0 => assumption); (case e1 => exact rfl))
  | ((with_reducible refine' exG3_s ?e0 ?e1 ?_); (case e0 => assumption); (case e1 => exact rfl))
  | with_reducible refine dD1_s ?_
  | with_reducible refine dNeg_s ?_
  | ((with_reducible refine' sAugI_s ?e0 ?_); (case e0 => exact rfl))
  | ((with_reducible refine' augK_s ?e0 ?e1 ?_); (case e0 => exact rfl); (case e1 => walk_at "dn"))
  | with_reducible refine dIxR_s ?_
  | with_reducible refine lenR_s ?_
  | with_reducible refine dNeS_s ?_
  | ((with_reducible refine' dIxV_s ?e0 ?_); (case e0 => exact rfl))
  | ((with_reducible refine' ixVK_s ?e0 ?e1 ?_); (case e0 => exact rfl); (case e1 => exact rfl))
  | with_reducible refine sLPut_s ?_
  | ((with_reducible refine' lPutK_s ?e0 ?_); (case e0 => exact rfl))
  | ((with_reducible refine' lPutK2_s ?e0 ?e1 ?e2 ?_); (case e0 => exact rfl); (case e1 => exact rfl); (case e2 => walk_at "dn"))
  | ((with_reducible refine' sLAug_s ?e0 ?e1 ?e2 ?_); (case e0 => exact rfl); (case e1 => decide); (case e2 => exact rfl))
  | ((with_reducible refine' lAugK_s ?e0 ?e1 ?e2 ?_); (case e0 => exact rfl); (case e1 => exact rfl); (case e2 => walk_at "dn"))
  | with_reducible refine sRetL_s ?_
  | ((with_reducible refine' ixL_s ?e0 ?_); (case e0 => exact rfl))
  | ((with_reducible refine' addLb_s ?e0 ?_); (case e0 => exact rfl)))
local macro_rules | `(tactic| walk_at "dt") => `(tactic| repeat walk_at "s2")
local macro_rules | `(tactic| walk_at "s5") => `(tactic| first
  | walk_at "s2"
  | with_reducible refine dCatT_s ?_
  | with_reducible refine dInX_s ?_
  | with_reducible refine dInXV_s ?_
  | with_reducible refine dSortM_s ?_
  | with_reducible refine sortMK_s ?_
  | with_reducible refine dSortSet_s ?_
  | with_reducible refine iQ_s ?_
  | with_reducible refine iqL_s ?_
  | with_reducible refine iqT_s ?_
  | with_reducible refine dOwnE_s ?_
  | with_reducible refine minK_s ?_
  | with_reducible refine maxK_s ?_
  | with_reducible refine min3K_s ?_
  | ((with_reducible refine' ixT_s ?e0 ?_); (case e0 => exact rfl))
  | ((with_reducible refine' dEqV_s ?e0 ?_); (case e0 => exact rfl))
  | ((with_reducible refine' dLenV_s ?e0 ?_); (case e0 => exact rfl))
  | ((with_reducible refine' isiTup_s ?e0 ?_); (case e0 => exact kb7)))
local macro_rules | `(tactic| walk_at "dq") => `(tactic| repeat walk_at "s5")
local macro_rules | `(tactic| walk_at "s6") => `(tactic| first
  | walk_at "s5"
  | with_reducible refine dPart_s ?_
  | with_reducible refine partK_s ?_
  | with_reducible refine dCMeth_s ?_
  | with_reducible refine cmethK_s ?_
  | ((with_reducible refine' cmethK2_s ?e0 ?e1 ?e2 ?e3 ?e4 ?_); (case e0 => exact rfl); (case e1 => walk_at "dn"); (case e2 => exact rfl); (case e3 => exact rfl); (case e4 => walk_at "dn"))
  | ((with_reducible refine' dMakeL_s ?e0 ?_); (case e0 => exact rfl))
  | with_reducible refine dFmt_s ?_
  | with_reducible refine dJoined_s ?_
  | with_reducible refine jCons_s ?_
  | with_reducible refine jNil_s ?_
  | with_reducible refine dOwn1_s ?_
  | with_reducible refine own1K_s ?_
  | with_reducible refine dCallT_s ?_
  | ((with_reducible refine' callT1_s ?e0 ?e1 ?e2 ?e3 ?_); (case e0 => exact rfl); (case e1 => exact rfl); (case e2 => exact rfl); (case e3 => walk_at "dn"))
  | ((with_reducible refine' callT4_s ?e0 ?_); (case e0 => walk_at "dn"))
  | ((with_reducible refine' callT2_s ?e0 ?e1 ?e2 ?e3 ?_); (case e0 => exact rfl); (case e1 => exact rfl); (case e2 => exact rfl); (case e3 => walk_at "dn"))
  | ((with_reducible refine' callT3_s ?e0 ?_); (case e0 => walk_at "dn"))
  | with_reducible refine sSetLL_s ?_
  | ((with_reducible refine' setLL_s ?e0 ?e1 ?_); (case e0 => exact rfl); (case e1 => (intro p; walk_at "dn")))
  | ((with_reducible refine' sClear_s ?e0 ?e1 ?_); (case e0 => exact rfl); (case e1 => walk_at "dn"))
  | with_reducible refine dCMethS_s ?_
  | with_reducible refine cmethSK_s ?_
  | ((with_reducible refine' cmethSK2_s ?e0 ?_); (case e0 => exact rfl))
  | with_reducible refine dLstRev_s ?_
  | with_reducible refine lstRevK_s ?_
  | with_reducible refine dTupRev_s ?_
  | with_reducible refine tupRevK_s ?_
  | with_reducible refine dInOwn_s ?_
  | with_reducible refine dNinOwn_s ?_
  | with_reducible refine inOwnK_s ?_)
local macro_rules | `(tactic| walk_at "dr") => `(tactic| repeat walk_at "s6")
local macro_rules | `(tactic| walk_at "dz") => `(tactic| (simp [nf]; done))
abbrev px : Pr := (7, "x")
theorem good7 : goodP px := ⟨by decide, by decide, by decide +kernel⟩
theorem eqv_pairs2 : ∀ l m : List Pr, PyData.eqvAll (l.map pyP) (m.map pyP) = decide (l = m)
  | [], [] => by simp [PyData.eqvAll]
  | [], _ :: _ => by simp [PyData.eqvAll]
  | _ :: _, [] => by simp [PyData.eqvAll]
  | p :: l, q :: m => by
    rw [List.map_cons, List.map_cons, PyData.eqvAll, eqv_pair, eqv_pairs2 l m, Bool.eq_iff_iff]
    simp
theorem eqv_rows2 (l m : List Pr) : PyData.eqv (.list (l.map pyP)) (.list (m.map pyP)) = decide (l = m) := by rw [PyData.eqv, eqv_pairs2]
theorem few0 {l : List Pr} (h : l.length < 64) : DS.FewP l := ⟨l, h, fun _ h => h⟩
theorem cut2 (ps : List Pr) : ((ps.map pairD).drop (HT.sIx (ps.map pairD).length 0 none)).take (HT.sIx (ps.map pairD).length (ps.map pairD).length (some 2) - HT.sIx (ps.map pairD).length 0 none) = (ps.take 2).map pairD := by
  have e1 : HT.sIx (ps.map pairD).length (ps.map pairD).length (some 2) = min 2 ps.length := by
    unfold HT.sIx; simp
  have e3 : HT.sIx (ps.map pairD).length 0 none = 0 := rfl
  rw [e1, e3, List.drop_zero, Nat.sub_zero, List.map_take]
  rw [List.take_eq_take_iff]
  simp
/-- the last, the first, the middle one of at most three -/
theorem some_ix (ps : List Pr) : ∃ z y w : Pr, (∀ c : Pr, (c = z ∨ c = y ∨ c = y ∨ c = w) ↔ c ∈ ps.take 2 ++ [px]) ∧ ixD (rowD (ps.take 2 ++ [px])) (.int (-1)) = some (pairD z) ∧ ixD (rowD (ps.take 2 ++ [px])) (.int 0) = some (pairD y) ∧ ixD (rowD (ps.take 2 ++ [px])) (.int ((((ps.take 2 ++ [px]).map pairD).length : Int) / 2)) = some (pairD w) := by
  match ps with
  | [] => exact ⟨px, px, px, fun c => by simp, rfl, rfl, rfl⟩
  | [p] =>
    have e : ((((List.take 2 [p] ++ [px]).map pairD).length : Nat) : Int) / 2 = 1 := by simp
    rw [e]
    refine ⟨px, p, px, fun c => ⟨fun h => ?_, fun h => ?_⟩, rfl, rfl, rfl⟩
    · rcases h with h | h | h | h <;> simp [h]
    · simp at h
      rcases h with h | h <;> simp [h]
  | p :: q :: r =>
    have e : ((((List.take 2 (p :: q :: r) ++ [px]).map pairD).length : Nat) : Int) / 2 = 1 := by simp
    rw [e]
    refine ⟨px, p, q, fun c => ⟨fun h => ?_, fun h => ?_⟩, rfl, rfl, rfl⟩
    · rcases h with h | h | h | h <;> simp [h]
    · simp at h
      rcases h with h | h | h <;> simp [h]
theorem d_law {K : PySem.W.Frag} {a : Ad} : ∀ as Qd, as.length = 1 → (S_law a) as Qd → td_law K a (fnEnds as Qd) (as ++ List.replicate (8 - 1) .un) := by
  rintro as Qd hl ⟨ns, rfl, hn, q⟩
  show td_law K a (fnEnds _ Qd) [.fz (.scr ns), .un, .un, .un, .un, .un, .un, .un]
  unfold td_law
  walk_at "dr"
  refine ⟨ns, 1, _, rfl, hn, by decide, by decide, by split <;> omega, by split <;> omega, fun ps hg hpl => ?_⟩
  have hps : ps.length ≤ 62 := by (repeat' split at hpl) <;> omega
  clear hpl
  have hga : ∀ p ∈ ascP ps, goodP p := fun p hp => hg p (mem_ascP.mp hp)
  have hal : (ascP ps).length ≤ 62 := Nat.le_trans (ascP_len ps) hps
  walk_at "dr"
  refine ⟨ps, rfl, hg, by omega, ?_⟩
  walk_at "dr"
  intro y0
  with_reducible refine seqC_id ?_
  refine cutC_s (fun env => env = [.fz (.scr ns), .fz (rowD ps), .fz (rowD (ascP ps)), .ow (.ref y0) (lstA K (nf a) (ps.map pairD)), .fz (capD a (ascP ps)), .un, .un, .un]) (fun R hR => ?_) ?_
  · walk_at "dr"
    refine ⟨ns, 0, rfl, by decide, by decide, fun v s hT => ?_⟩
    obtain ⟨A, rfl⟩ := hT.is
    walk_at "dr"
    refine ⟨v, _, 0, 2, rfl, hT, by decide, by decide, by decide, fun s1 d1 hT1 hd10 hd11 => ?_⟩
    walk_at "dr"
    refine ite_s (fun h => ?_) (fun h => ?_)
    · walk_at "dr"
      intro y1
      refine ⟨.ref y1, _, ps, rfl, ⟨.inl ⟨_, rfl, .inr rfl⟩, hg, few0 (by omega)⟩, ?_⟩
      walk_at "dr"
      exact hR _ rfl
    · walk_at "dr"
      intro y1
      refine ⟨.ref y1, _, ps, rfl, ⟨.inr ⟨_, rfl⟩, hg, few0 (by omega)⟩, ?_⟩
      walk_at "dr"
      exact hR _ rfl
  rintro _ rfl
  walk_at "dr"
  refine ⟨_, .list (ps.map pyP), .list (ps.map pyP), .inr ⟨_, rfl⟩, by simp only [pyOf, py_pairs]; rfl, by simp only [pyOf, py_pairs]; rfl, shaped_pairs (good_ok hg), shaped_pairs (good_ok hg), ?_⟩
  rw [show PyData.eqv (.list (ps.map pyP)) (.list (ps.map pyP)) = true from by rw [eqv_rows2]; simp]
  walk_at "dr"
  refine ⟨ascP ps, rfl, hga, by omega, ?_⟩
  walk_at "dr"
  rw [cut2]
  have hl3 : (ps.take 2 ++ [px]).length ≤ 3 := by rw [List.length_append, List.length_take]; simp; omega
  have hg3 : ∀ p ∈ ps.take 2 ++ [px], goodP p := fun p hp => (List.mem_append.mp hp).elim (fun h => hg p (List.mem_of_mem_take h)) fun h => by rw [List.mem_singleton.mp h]; exact good7
  refine addL_s (by simp only [List.length_map, List.length_take, List.length_cons, List.length_nil]; omega) ?_
  rw [show ((ps.take 2).map pairD ++ [D.tup [.int 7, .str (Str.ofString "x")]]) = (ps.take 2 ++ [px]).map pairD from by rw [List.map_append]; rfl]
  obtain ⟨z, y, w, hm, i1, i2, i3⟩ := some_ix ps
  generalize hso : ps.take 2 ++ [px] = so at hl3 hg3 hm i1 i2 i3
  walk_at "dr"
  refine ⟨1, rfl, ?_⟩
  refine fK_s i1 ?_
  walk_at "dr"
  refine fK_s i2 ?_
  walk_at "dr"
  refine fK_s i2 ?_
  walk_at "dr"
  refine fK_s i3 ?_
  walk_at "dr"
  have hmem : ∀ p, p ∈ [z, y, y, w] ↔ p ∈ so := fun p => by rw [← hm p]; simp
  have e4 : ascP [z, y, y, w] = ascP so := ascP_ext hmem
  have hg4 : ∀ p ∈ [z, y, y, w], goodP p := fun p hp => hg3 p ((hmem p).mp hp)
  refine ⟨[z, y, y, w], rfl, hg4, few0 (by simp), ?_⟩
  rw [e4]
  walk_at "dr"
  refine ⟨so, rfl, hg3, by omega, ?_⟩
  walk_at "dr"
  refine ⟨ascP so, rfl, fun p hp => hg3 p (mem_ascP.mp hp), Nat.le_trans (ascP_len so) (by omega), ?_⟩
  walk_at "dr"
  have hg1 : ∀ p ∈ [px], goodP p := fun p hp => by rw [List.mem_singleton.mp hp]; exact good7
  have e1 : ascP [px] = [px] := ascP_self (by simp [AscP])
  refine ⟨[px], rfl, hg1, few0 (by decide), ?_⟩
  rw [e1]
  walk_at "dr"
  intro y2
  refine ⟨.ref y2, _, [], rfl, ⟨.inl ⟨_, rfl, .inr rfl⟩, (fun p hp => by cases hp), few0 (by decide)⟩, ?_⟩
  rw [show ascP [] = [] from ascP_self (by simp [AscP])]
  walk_at "dr"
  refine neRefl_s rfl (by decide +kernel) (by decide +kernel) ?_
  walk_at "dr"
  refine neRefl_s rfl (by decide +kernel) (by decide +kernel) ?_
  walk_at "dr"
  refine ⟨[], rfl, by decide, ⟨_, rfl, by decide, by decide⟩, ?_⟩
  walk_at "dr"
  refine ⟨[], rfl, by decide, ⟨_, rfl⟩, ?_⟩
  walk_at "dr"
  refine ⟨ascP ps, rfl, hga, by omega, ?_⟩
  walk_at "dr"
  exact q
end K01

namespace K01
open PySem L2 DL
structure Txt (K : PySem.W.Frag) (mg : Str → Option Value) (a : Ad) : Prop where
  F_is_word : Fun K "is_word" "is_word" s_is_word a.f_is_word a.d_is_word
  b_is_word : Binds K a.d_is_word ["value"] []
  g_is_word : mg "is_word" = some (.ref a.f_is_word)
  k_is_word : PySem.W.keepIn K (.ref a.f_is_word) = true
  F_is_identifier : Fun K "is_identifier" "is_identifier" s_is_identifier a.f_is_identifier a.d_is_identifier
  b_is_identifier : Binds K a.d_is_identifier ["value"] []
  g_is_identifier : mg "is_identifier" = some (.ref a.f_is_identifier)
  k_is_identifier : PySem.W.keepIn K (.ref a.f_is_identifier) = true
  F_is_pair : Fun K "is_pair" "is_pair" s_is_pair a.f_is_pair a.d_is_pair
  b_is_pair : Binds K a.d_is_pair ["value"] []
  g_is_pair : mg "is_pair" = some (.ref a.f_is_pair)
  k_is_pair : PySem.W.keepIn K (.ref a.f_is_pair) = true
  F_in_order : Fun K "in_order" "in_order" s_in_order a.f_in_order a.d_in_order
  b_in_order : Binds K a.d_in_order ["pairs"] []
  g_in_order : mg "in_order" = some (.ref a.f_in_order)
  k_in_order : PySem.W.keepIn K (.ref a.f_in_order) = true
  F_Captures_init : FunD K "__init__" "Captures.__init__" (defArgs s_Captures_init) (defBody s_Captures_init) (defScope s_Captures_init) [.ref a.e_Captures] [] a.f_Captures_init a.d_Captures_init
  b_Captures_init : Binds K a.d_Captures_init ["self", "pairs"] []
  b1_Captures_init : ∃ ds, Vals [.ref a.e_Captures] ds ∧ Binds K a.d_Captures_init ["self", "pairs"] ds
  rd_Captures_init : ∀ nf H, Rels K nf H [.ref a.e_Captures] [.tup []]
  mk_Captures : Mk K a.C_Captures a.f_Captures_init
  F_Captures_of : Fun K "of" "Captures.of" s_Captures_of a.f_Captures_of a.d_Captures_of
  cm_Captures_of : ClX.CMet K a.C_Captures (.type "type") "of" a.p_Captures_of a.f_Captures_of
  F_Captures_len : Fun K "__len__" "Captures.__len__" s_Captures_len a.f_Captures_len a.d_Captures_len
  b_Captures_len : Binds K a.d_Captures_len ["self"] []
  m_Captures_len : Meth K a.C_Captures "__len__" a.f_Captures_len
  F_Captures_bool : Fun K "__bool__" "Captures.__bool__" s_Captures_bool a.f_Captures_bool a.d_Captures_bool
  b_Captures_bool : Binds K a.d_Captures_bool ["self"] []
  m_Captures_bool : Meth K a.C_Captures "__bool__" a.f_Captures_bool
  F_Captures_at : Fun K "at" "Captures.at" s_Captures_at a.f_Captures_at a.d_Captures_at
  b_Captures_at : Binds K a.d_Captures_at ["self", "number"] []
  m_Captures_at : Meth K a.C_Captures "at" a.f_Captures_at
  F_law_tape : Fun K "_law_tape" "_law_tape" s_law_tape a.f_law_tape a.d_law_tape
  b_law_tape : Binds K a.d_law_tape ["_law_script", "_law_k"] []
  g_law_tape : mg "_law_tape" = some (.ref a.f_law_tape)
  k_law_tape : PySem.W.keepIn K (.ref a.f_law_tape) = true
  F_law_draw : Fun K "_law_draw" "_law_draw" s_law_draw a.f_law_draw a.d_law_draw
  b_law_draw : Binds K a.d_law_draw ["_law_tape_here", "_law_many"] []
  g_law_draw : mg "_law_draw" = some (.ref a.f_law_draw)
  k_law_draw : PySem.W.keepIn K (.ref a.f_law_draw) = true
  F_law_kept : Fun K "_law_kept" "_law_kept" s_law_kept a.f_law_kept a.d_law_kept
  b_law_kept : Binds K a.d_law_kept [] []
  g_law_kept : mg "_law_kept" = some (.ref a.f_law_kept)
  k_law_kept : PySem.W.keepIn K (.ref a.f_law_kept) = true
  F_law_signs : Fun K "_law_signs" "_law_signs" s_law_signs a.f_law_signs a.d_law_signs
  b_law_signs : Binds K a.d_law_signs [] []
  g_law_signs : mg "_law_signs" = some (.ref a.f_law_signs)
  k_law_signs : PySem.W.keepIn K (.ref a.f_law_signs) = true
  F_law_spelled : Fun K "_law_spelled" "_law_spelled" s_law_spelled a.f_law_spelled a.d_law_spelled
  b_law_spelled : Binds K a.d_law_spelled ["_law_tape_here", "_law_used"] []
  g_law_spelled : mg "_law_spelled" = some (.ref a.f_law_spelled)
  k_law_spelled : PySem.W.keepIn K (.ref a.f_law_spelled) = true
  F_law_ident : Fun K "_law_ident" "_law_ident" s_law_ident a.f_law_ident a.d_law_ident
  b_law_ident : Binds K a.d_law_ident ["_law_tape_here", "_law_used"] []
  g_law_ident : mg "_law_ident" = some (.ref a.f_law_ident)
  k_law_ident : PySem.W.keepIn K (.ref a.f_law_ident) = true
  F_law_number : Fun K "_law_number" "_law_number" s_law_number a.f_law_number a.d_law_number
  b_law_number : Binds K a.d_law_number ["_law_tape_here"] []
  g_law_number : mg "_law_number" = some (.ref a.f_law_number)
  k_law_number : PySem.W.keepIn K (.ref a.f_law_number) = true
  F_law_pairs : Fun K "_law_pairs" "_law_pairs" s_law_pairs a.f_law_pairs a.d_law_pairs
  b_law_pairs : Binds K a.d_law_pairs ["_law_script", "_law_first", "_law_last"] []
  g_law_pairs : mg "_law_pairs" = some (.ref a.f_law_pairs)
  k_law_pairs : PySem.W.keepIn K (.ref a.f_law_pairs) = true
  F_law_ascending : Fun K "_law_ascending" "_law_ascending" s_law_ascending a.f_law_ascending a.d_law_ascending
  b_law_ascending : Binds K a.d_law_ascending ["_law_pairs_here"] []
  g_law_ascending : mg "_law_ascending" = some (.ref a.f_law_ascending)
  k_law_ascending : PySem.W.keepIn K (.ref a.f_law_ascending) = true
  F_law_agrees : Fun K "_law_agrees" "_law_agrees" s_law_agrees a.f_law_agrees a.d_law_agrees
  b_law_agrees : Binds K a.d_law_agrees ["_law_made", "_law_due"] []
  g_law_agrees : mg "_law_agrees" = some (.ref a.f_law_agrees)
  k_law_agrees : PySem.W.keepIn K (.ref a.f_law_agrees) = true
  F_law : Fun K "law" "law" s_law a.f_law a.d_law
  b_law : Binds K a.d_law ["_law_script"] []
  g_law : mg "law" = some (.ref a.f_law)
  k_law : PySem.W.keepIn K (.ref a.f_law) = true
  cr_Captures : ClX.CRead K a.C_Captures (.type "type")
  c_Captures : Cls K a.C_Captures
  i_Captures : IsiC K a.C_Captures
  g_Captures : mg "Captures" = some (.ref a.C_Captures)
  n_Captures_pairs : NoAttr K a.C_Captures "pairs"
  z_set : mg "set" = none
  z_min : mg "min" = none
  z_len : mg "len" = none
  z_int : mg "int" = none
  z_str : mg "str" = none
  z_all : mg "all" = none
  z_tuple : mg "tuple" = none
  z_list : mg "list" = none
  z_sorted : mg "sorted" = none
  z_isinstance : mg "isinstance" = none
  z_range : mg "range" = none
  z_bool : mg "bool" = none
  g_LETTERS : mg "LETTERS" = some (.str "abcdefghijklmnopqrstuvwxyz" a.t_LETTERS)
  g_DIGITS : mg "DIGITS" = some (.str "0123456789" a.t_DIGITS)
  g_LONGEST : mg "LONGEST" = some (.int 12 a.t_LONGEST)
  g_KEPT : mg "KEPT" = some (.ref a.p_KEPT)
  r_KEPT : ∀ nf H, Rel K nf H (.ref a.p_KEPT) kept
  g_MOST_NUMBER : mg "MOST_NUMBER" = some (.int (10 ^ 60) a.t_MOST_NUMBER)
section
variable {P : Program} {w : World} {K : PySem.W.Frag} {mg : Str → Option Value} {base : Heap} {a : Ad}
theorem ok_is_word (T : Txt K mg a) : FnOk P w K mg base CX0 1 a.f_is_word a.d_is_word ["value"] (toSp K (nf a) 1 (S_is_word a)) := by
  refine T.F_is_word.ok sc_is_word (fun vs H Q E h => h.1) (fun cdv A outer s H vs Q E hr h => ?_)
  have hN := sc_is_word.nd
  have hu := hu_of hr
  have hu6 := hr.units
  refine body_ok (td := td_is_word K a) ?_ (by decide) (d_is_word) h
  exact (ds_cons (ds_if (DW.dc (dw_or (dc_not (dc_val (de_cb call_isi cd_isi rfl T.z_isinstance (by decide +kernel) (da_cons (dv 0) (da_cons (de_bty rfl T.z_str (by decide +kernel)) da_nil))))) (dw_or1 (dc_not (dc_chain op_le op_le de_int (de_cb call_lenG cd_lenG rfl T.z_len boot_len (da_cons (dv 0) da_nil)) (de_gint rfl T.g_LONGEST)))))) (ds_one (ds_ret de_bl)) ds_nil)
      (ds_one (ds_ret (de_cb (cr_all rfl) cd_all rfl T.z_all (by decide +kernel) (da_cons (de_lc rfl hN (di_str (dv 0)) (own := [("sign", 1)]) (show BlkOk ["value", "sign"] (defScope s_is_word) _ _ from ⟨rfl, by decide +kernel, by decide +kernel, by decide +kernel, by decide +kernel⟩) (fun s H C cl fp => (dg_name (i := 1) hN rfl (by first | exact Or.inl rfl | exact Or.inr rfl))) (fun s H C cl fp => dts_nil) (fun s H C cl fp => (de_or (de_inG hu (dv 1) (de_gstr rfl T.g_LETTERS)) (de_one (de_inG hu (dv 1) (de_gstr rfl T.g_DIGITS)))))) da_nil)))))
theorem ok_is_identifier (T : Txt K mg a) : FnOk P w K mg base CX0 2 a.f_is_identifier a.d_is_identifier ["value"] (toSp K (nf a) 1 (S_is_identifier a)) := by
  have G_is_word : FnOk P w K mg base CX0 1 a.f_is_word a.d_is_word ["value"] (toSp K (nf a) 1 (S_is_word a)) := ok_is_word T
  have b_is_word := T.b_is_word
  refine T.F_is_identifier.ok sc_is_identifier (fun vs H Q E h => h.1) (fun cdv A outer s H vs Q E hr h => ?_)
  have hN := sc_is_identifier.nd
  have hu := hu_of hr
  have hu6 := hr.units
  refine body_ok (td := td_is_identifier K a) ?_ (by decide) (d_is_identifier) h
  exact (ds_one (ds_ret (de_and (de_call G_is_word (hr.mono (by decide)) rfl T.g_is_word T.k_is_word b_is_word .nil (fun _ => .nil) pass0 (dm_val (dv 0) dm_nil)) (de_and (de_inG hu (de_ixG hu (dv 0) de_int) (de_gstr rfl T.g_LETTERS)) (de_one (de_ninG hu (dv 0) (de_gany rfl T.g_KEPT (T.r_KEPT _))))))))
theorem ok_is_pair (T : Txt K mg a) : FnOk P w K mg base CX0 3 a.f_is_pair a.d_is_pair ["value"] (toSp K (nf a) 1 (S_is_pair a)) := by
  have G_is_identifier : FnOk P w K mg base CX0 2 a.f_is_identifier a.d_is_identifier ["value"] (toSp K (nf a) 1 (S_is_identifier a)) := ok_is_identifier T
  have b_is_identifier := T.b_is_identifier
  refine T.F_is_pair.ok sc_is_pair (fun vs H Q E h => h.1) (fun cdv A outer s H vs Q E hr h => ?_)
  have hN := sc_is_pair.nd
  have hu := hu_of hr
  have hu6 := hr.units
  refine body_ok (td := td_is_pair K a) ?_ (by decide) (d_is_pair) h
  exact (ds_cons (ds_if (DW.dc (dw_or (dc_not (dc_val (de_cb call_isi cd_isi rfl T.z_isinstance (by decide +kernel) (da_cons (dv 0) (da_cons (de_bty rfl T.z_tuple (by decide +kernel)) da_nil))))) (dw_or1 (dc_neG hu6 (de_cb call_lenG cd_lenG rfl T.z_len boot_len (da_cons (dv 0) da_nil)) de_int)))) (ds_one (ds_ret de_bl)) ds_nil)
      (ds_cons (ds_asg (dv 0) (dg_tup rfl (dgs_cons (dg_name (i := 1) hN rfl (by first | exact Or.inl rfl | exact Or.inr rfl)) (dgs_cons (dg_name (i := 2) hN rfl (by first | exact Or.inl rfl | exact Or.inr rfl)) dgs_nil))))
      (ds_cons (ds_if (DW.dc (dw_or (dc_not (dc_val (de_cb call_isi cd_isi rfl T.z_isinstance (by decide +kernel) (da_cons (dv 1) (da_cons (de_bty rfl T.z_int (by decide +kernel)) da_nil))))) (dw_or (dc_val (de_cb call_isi cd_isi rfl T.z_isinstance (by decide +kernel) (da_cons (dv 1) (da_cons (de_bty rfl T.z_bool (by decide +kernel)) da_nil)))) (dw_or1 (dc_not (dc_chain op_le op_lt de_int (dv 1) (de_gint rfl T.g_MOST_NUMBER))))))) (ds_one (ds_ret de_bl)) ds_nil)
      (ds_one (ds_ret (de_call G_is_identifier (hr.mono (by decide)) rfl T.g_is_identifier T.k_is_identifier b_is_identifier .nil (fun _ => .nil) pass0 (dm_val (dv 2) dm_nil)))))))
theorem ok_in_order (T : Txt K mg a) : FnOk P w K mg base CX0 4 a.f_in_order a.d_in_order ["pairs"] (toSp K (nf a) 1 (S_in_orderQ K a)) := by
  have G_is_pair : FnOk P w K mg base CX0 3 a.f_is_pair a.d_is_pair ["value"] (toSp K (nf a) 1 (S_is_pair a)) := ok_is_pair T
  have b_is_pair := T.b_is_pair
  refine T.F_in_order.ok sc_in_order (fun vs H Q E h => h.1) (fun cdv A outer s H vs Q E hr h => ?_)
  have hN := sc_in_order.nd
  have hu := hu_of hr
  have hu6 := hr.units
  refine body_ok (td := td_in_order K a) ?_ (by decide) (d_in_order) h
  exact (ds_cons (ds_forQ PassesOwn.never rfl (pv 0) (dg_name (i := 1) hN rfl (by first | exact Or.inl rfl | exact Or.inr rfl)) (ds_one (ds_if (dc_not (dc_val (de_call G_is_pair (hr.mono (by decide)) rfl T.g_is_pair T.k_is_pair b_is_pair .nil (fun _ => .nil) pass0 (dm_val (dv 1) dm_nil)))) (ds_one ds_never) ds_nil)))
      (ds_one (ds_ret (de_ct call_tuple_of cd_tuple rfl T.z_tuple (by decide +kernel) (da_cons (de_sortSetQ rfl hu6 rfl T.z_sorted rfl T.z_set (pv 0)) da_nil)))))
theorem ok_Captures_init (T : Txt K mg a) : FnOk P w K mg base CX0 5 a.f_Captures_init a.d_Captures_init ["self", "pairs"] (toSp K (nf a) 2 (S_Captures_initQ K a)) := by
  have G_in_order : FnOk P w K mg base CX0 4 a.f_in_order a.d_in_order ["pairs"] (toSp K (nf a) 1 (S_in_orderQ K a)) := ok_in_order T
  have b_in_order := T.b_in_order
  refine T.F_Captures_init.ok sc_Captures_init (fun vs H Q E h => h.1) (fun cdv A outer s H vs Q E hr h => ?_)
  have hN := sc_Captures_init.nd
  have hu := hu_of hr
  have hu6 := hr.units
  refine body_ok (td := td_Captures_init K a) ?_ (by decide) (d_Captures_init) h
  exact (ds_one (ds_fldS (pv 0) (de_call G_in_order (hr.mono (by decide)) rfl T.g_in_order T.k_in_order b_in_order .nil (fun _ => .nil) pass0 (dm_slot (pv 1) dm_nil)) T.c_Captures T.n_Captures_pairs))
theorem ok_Captures_of (T : Txt K mg a) : FnR P w K mg base CX0 7 a.f_Captures_of (starSp 1 (toSp K (nf a) 2 (S_Captures_of a))) := by
  have G_Captures_init : FnOk P w K mg base CX0 5 a.f_Captures_init a.d_Captures_init ["self", "pairs"] (toSp K (nf a) 2 (S_Captures_initQ K a)) := ok_Captures_init T
  have b_Captures_init := T.b_Captures_init
  refine fun_okS (ps := ["cls"]) (pv := "pairs") T.F_Captures_of sc_Captures_of (fun _ _ _ _ _ _ us rest hl => match us, rest, hl with | [_], [], _ => rfl | [_], _ :: _, _ => rfl) (fun cdv A outer s H vs Q E hr h => ?_)
  have hN := sc_Captures_of.nd
  have hu := hu_of hr
  have hu6 := hr.units
  refine body_ok (td := td_Captures_of K a) ?_ (by decide) (d_Captures_of) h
  exact (ds_one (ds_ret (de_makeL (i := 0) rfl (by first | exact Or.inl rfl | exact Or.inr (by first | exact Or.inl rfl | exact Or.inr rfl) | exact Or.inr (Or.inr rfl)) T.mk_Captures G_Captures_init (hr.mono (by decide)) b_Captures_init .nil (fun _ => .nil) pass0 (dm_val (dv 1) dm_nil))))
theorem ok_Captures_len (T : Txt K mg a) : FnOk P w K mg base CX0 1 a.f_Captures_len a.d_Captures_len ["self"] (toSp K (nf a) 1 (S_Captures_len a)) := by
  refine T.F_Captures_len.ok sc_Captures_len (fun vs H Q E h => h.1) (fun cdv A outer s H vs Q E hr h => ?_)
  have hN := sc_Captures_len.nd
  have hu := hu_of hr
  have hu6 := hr.units
  refine body_ok (td := td_Captures_len K a) ?_ (by decide) (d_Captures_len) h
  exact (ds_one (ds_ret (de_cb call_lenG cd_lenG rfl T.z_len boot_len (da_cons (de_fld (dv 0) T.c_Captures T.n_Captures_pairs) da_nil))))
theorem ok_Captures_bool (T : Txt K mg a) : FnOk P w K mg base CX0 1 a.f_Captures_bool a.d_Captures_bool ["self"] (toSp K (nf a) 1 (S_Captures_bool a)) := by
  refine T.F_Captures_bool.ok sc_Captures_bool (fun vs H Q E h => h.1) (fun cdv A outer s H vs Q E hr h => ?_)
  have hN := sc_Captures_bool.nd
  have hu := hu_of hr
  have hu6 := hr.units
  refine body_ok (td := td_Captures_bool K a) ?_ (by decide) (d_Captures_bool) h
  exact (ds_one (ds_ret (de_gt (de_cb call_lenG cd_lenG rfl T.z_len boot_len (da_cons (de_fld (dv 0) T.c_Captures T.n_Captures_pairs) da_nil)) de_int)))
theorem ok_Captures_at (T : Txt K mg a) : FnOk P w K mg base CX0 1 a.f_Captures_at a.d_Captures_at ["self", "number"] (toSp K (nf a) 2 (S_Captures_at a)) := by
  refine T.F_Captures_at.ok sc_Captures_at (fun vs H Q E h => h.1) (fun cdv A outer s H vs Q E hr h => ?_)
  have hN := sc_Captures_at.nd
  have hu := hu_of hr
  have hu6 := hr.units
  refine body_ok (td := td_Captures_at K a) ?_ (by decide) (d_Captures_at) h
  exact (ds_one (ds_ret (de_ct call_tuple_of cd_tuple rfl T.z_tuple (by decide +kernel) (da_cons (de_lc rfl hN (di_tup (de_fld (dv 0) T.c_Captures T.n_Captures_pairs)) (own := [("pair", 2)]) (show BlkOk ["self", "number", "pair"] (defScope s_Captures_at) _ _ from ⟨rfl, by decide +kernel, by decide +kernel, by decide +kernel, by decide +kernel⟩) (fun s H C cl fp => (dg_name (i := 2) hN rfl (by first | exact Or.inl rfl | exact Or.inr rfl))) (fun s H C cl fp => (dts_one (dc_eqG hu6 (de_ixG hu (dv 2) de_int) (dv 1)))) (fun s H C cl fp => (de_ixG hu (dv 2) de_int))) da_nil))))
theorem ok_law_tape (T : Txt K mg a) : FnOk P w K mg base CX0 1 a.f_law_tape a.d_law_tape ["_law_script", "_law_k"] (toSpO K (nf a) 2 (S_law_tape K a)) := by
  refine T.F_law_tape.ok sc_law_tape (fun vs H Q E h => h.1) (fun cdv A outer s H vs Q E hr h => ?_)
  have hN := sc_law_tape.nd
  have hu := hu_of hr
  have hu6 := hr.units
  refine body_okO (td := td_law_tape K a) ?_ (by decide) (d_law_tape) h
  exact (ds_cons (ds_set (i := 2) hN rfl (by first | exact Or.inl rfl | exact Or.inr rfl) de_int)
      (ds_cons (ds_if (dc_lt (dv 1) (de_cb call_len_seq cd_lenR rfl T.z_len boot_len (da_cons (dv 0) da_nil))) (ds_one (ds_set (i := 2) hN rfl (by first | exact Or.inl rfl | exact Or.inr rfl) (de_ct call_int1 cd_int rfl T.z_int (by decide +kernel) (da_cons (de_ixR (dv 0) (dv 1)) da_nil)))) ds_nil)
      (ds_one (ds_retL (da_cons (dv 2) (da_cons de_int (da_cons (de_ct call_int1 cd_int rfl T.z_int (by decide +kernel) (da_cons (de_chain op_le op_lt de_int (dv 2) (de_pow de_int de_int)) da_nil)) (da_cons (dv 1) da_nil))))))))
theorem ok_law_draw (T : Txt K mg a) : FnOk P w K mg base CX0 1 a.f_law_draw a.d_law_draw ["_law_tape_here", "_law_many"] (toSp K (nf a) 2 (S_law_draw K a)) := by
  refine T.F_law_draw.ok sc_law_draw (fun vs H Q E h => h.1) (fun cdv A outer s H vs Q E hr h => ?_)
  have hN := sc_law_draw.nd
  have hu := hu_of hr
  have hu6 := hr.units
  refine body_ok (td := td_law_draw K a) ?_ (by decide) (d_law_draw) h
  exact (ds_cons (ds_laug (pv 0) de_int)
      (ds_cons (ds_if (dc_eqG hu6 (de_ixV (pv 0) de_int) de_int) (ds_cons (ds_set (i := 2) hN rfl (by first | exact Or.inl rfl | exact Or.inr rfl) (de_mod (de_ct call_int1 cd_int rfl T.z_int (by decide +kernel) (da_cons (de_ixV (pv 0) de_int) da_nil)) (dv 1)))
      (ds_cons (ds_lput (pv 0) de_int (de_div (de_ct call_int1 cd_int rfl T.z_int (by decide +kernel) (da_cons (de_ixV (pv 0) de_int) da_nil)) (dv 1)))
      (ds_one (ds_ret (dv 2))))) ds_nil)
      (ds_cons (ds_set (i := 3) hN rfl (by first | exact Or.inl rfl | exact Or.inr rfl) (de_ixG hu (de_lst (da_cons de_int (da_cons de_int (da_cons de_int (da_cons de_int (da_cons de_int da_nil)))))) (de_mod (de_ct call_int1 cd_int rfl T.z_int (by decide +kernel) (da_cons (de_ixV (pv 0) de_int) da_nil)) de_int)))
      (ds_cons (ds_set (i := 4) hN rfl (by first | exact Or.inl rfl | exact Or.inr rfl) (de_addG (de_ixV (pv 0) de_int) (de_mul (de_ixV (pv 0) de_int) de_int)))
      (ds_cons (ds_set (i := 5) hN rfl (by first | exact Or.inl rfl | exact Or.inr rfl) (de_mod (de_ct call_int1 cd_int rfl T.z_int (by decide +kernel) (da_cons (de_pow (de_addG (de_addG (dv 4) (de_mul (de_ixV (pv 0) de_int) de_int)) de_int) de_int) da_nil)) (dv 3)))
      (ds_one (ds_ret (de_mod (de_ct call_int1 cd_int rfl T.z_int (by decide +kernel) (da_cons (de_div (dv 5) de_int) da_nil)) (dv 1)))))))))
theorem ok_law_kept (T : Txt K mg a) : FnOk P w K mg base CX0 1 a.f_law_kept a.d_law_kept [] (toSp K (nf a) 0 (S_law_kept a)) := by
  refine T.F_law_kept.ok sc_law_kept (fun vs H Q E h => h.1) (fun cdv A outer s H vs Q E hr h => ?_)
  have hN := sc_law_kept.nd
  have hu := hu_of hr
  have hu6 := hr.units
  refine body_ok (td := td_law_kept K a) ?_ (by decide) (d_law_kept) h
  exact (ds_cons (ds_set (i := 0) hN rfl (by first | exact Or.inl rfl | exact Or.inr rfl) de_str)
      (ds_one (ds_ret (de_split (de_addG (dv 0) de_str) de_str))))
theorem ok_law_signs (T : Txt K mg a) : FnOk P w K mg base CX0 1 a.f_law_signs a.d_law_signs [] (toSp K (nf a) 0 (S_law_signs a)) := by
  refine T.F_law_signs.ok sc_law_signs (fun vs H Q E h => h.1) (fun cdv A outer s H vs Q E hr h => ?_)
  have hN := sc_law_signs.nd
  have hu := hu_of hr
  have hu6 := hr.units
  refine body_ok (td := td_law_signs K a) ?_ (by decide) (d_law_signs) h
  exact (ds_one (ds_ret de_str))
theorem ok_law_spelled (T : Txt K mg a) : FnOk P w K mg base CX0 2 a.f_law_spelled a.d_law_spelled ["_law_tape_here", "_law_used"] (toSp K (nf a) 2 (S_law_spelled K a)) := by
  have G_law_draw : FnOk P w K mg base CX0 1 a.f_law_draw a.d_law_draw ["_law_tape_here", "_law_many"] (toSp K (nf a) 2 (S_law_draw K a)) := ok_law_draw T
  have b_law_draw := T.b_law_draw
  have G_law_kept : FnOk P w K mg base CX0 1 a.f_law_kept a.d_law_kept [] (toSp K (nf a) 0 (S_law_kept a)) := ok_law_kept T
  have b_law_kept := T.b_law_kept
  have G_law_signs : FnOk P w K mg base CX0 1 a.f_law_signs a.d_law_signs [] (toSp K (nf a) 0 (S_law_signs a)) := ok_law_signs T
  have b_law_signs := T.b_law_signs
  refine T.F_law_spelled.ok sc_law_spelled (fun vs H Q E h => h.1) (fun cdv A outer s H vs Q E hr h => ?_)
  have hN := sc_law_spelled.nd
  have hu := hu_of hr
  have hu6 := hr.units
  refine body_ok (td := td_law_spelled K a) ?_ (by decide) (d_law_spelled) h
  exact (ds_cons (ds_set (i := 2) hN rfl (by first | exact Or.inl rfl | exact Or.inr rfl) (de_call G_law_draw (hr.mono (by decide)) rfl T.g_law_draw T.k_law_draw b_law_draw .nil (fun _ => .nil) pass0 (dm_slot (pv 0) (dm_val de_int dm_nil))))
      (ds_cons (ds_set (i := 3) hN rfl (by first | exact Or.inl rfl | exact Or.inr rfl) (de_addG de_int (de_call G_law_draw (hr.mono (by decide)) rfl T.g_law_draw T.k_law_draw b_law_draw .nil (fun _ => .nil) pass0 (dm_slot (pv 0) (dm_val de_int dm_nil)))))
      (ds_cons (ds_if (dc_eqG hu6 (dv 2) de_int) (ds_one (ds_set (i := 3) hN rfl (by first | exact Or.inl rfl | exact Or.inr rfl) de_int)) ds_nil)
      (ds_cons (ds_if (dc_eqG hu6 (dv 2) de_int) (ds_one (ds_ret (de_addG (de_ixG hu (de_call0 G_law_kept (hr.mono (by decide)) rfl T.g_law_kept T.k_law_kept b_law_kept .nil (fun _ => .nil) pass0) (de_call G_law_draw (hr.mono (by decide)) rfl T.g_law_draw T.k_law_draw b_law_draw .nil (fun _ => .nil) pass0 (dm_slot (pv 0) (dm_val de_int dm_nil)))) (de_ixG hu (de_call0 G_law_signs (hr.mono (by decide)) rfl T.g_law_signs T.k_law_signs b_law_signs .nil (fun _ => .nil) pass0) (de_call G_law_draw (hr.mono (by decide)) rfl T.g_law_draw T.k_law_draw b_law_draw .nil (fun _ => .nil) pass0 (dm_slot (pv 0) (dm_val de_int dm_nil))))))) ds_nil)
      (ds_cons (ds_if (DW.dc (dw_and (dc_eqG hu6 (dv 2) de_int) (dw_and1 (dc_neG hu6 (dv 1) (de_lst da_nil))))) (ds_cons (ds_set (i := 4) hN rfl (by first | exact Or.inl rfl | exact Or.inr rfl) (de_ixG hu (dv 1) (de_call G_law_draw (hr.mono (by decide)) rfl T.g_law_draw T.k_law_draw b_law_draw .nil (fun _ => .nil) pass0 (dm_slot (pv 0) (dm_val (de_cb call_lenG cd_lenG rfl T.z_len boot_len (da_cons (dv 1) da_nil)) dm_nil)))))
      (ds_cons (ds_set (i := 5) hN rfl (by first | exact Or.inl rfl | exact Or.inr rfl) (de_call G_law_draw (hr.mono (by decide)) rfl T.g_law_draw T.k_law_draw b_law_draw .nil (fun _ => .nil) pass0 (dm_slot (pv 0) (dm_val (de_cb call_lenG cd_lenG rfl T.z_len boot_len (da_cons (dv 4) da_nil)) dm_nil))))
      (ds_one (ds_ret (de_addG (de_addG (de_slS (dv 4) do_none (do_some (dv 5))) (de_ixG hu (de_call0 G_law_signs (hr.mono (by decide)) rfl T.g_law_signs T.k_law_signs b_law_signs .nil (fun _ => .nil) pass0) (de_call G_law_draw (hr.mono (by decide)) rfl T.g_law_draw T.k_law_draw b_law_draw .nil (fun _ => .nil) pass0 (dm_slot (pv 0) (dm_val de_int dm_nil))))) (de_slS (dv 4) (do_some (de_addG (dv 5) de_int)) do_none)))))) ds_nil)
      (ds_cons (ds_set (i := 4) hN rfl (by first | exact Or.inl rfl | exact Or.inr rfl) (de_ixG hu (de_call0 G_law_signs (hr.mono (by decide)) rfl T.g_law_signs T.k_law_signs b_law_signs .nil (fun _ => .nil) pass0) (de_call G_law_draw (hr.mono (by decide)) rfl T.g_law_draw T.k_law_draw b_law_draw .nil (fun _ => .nil) pass0 (dm_slot (pv 0) (dm_val de_int dm_nil)))))
      (ds_cons (ds_for PassesOwn.never rfl (di_range1 rfl T.z_range (da_cons (de_sub (dv 3) de_int) da_nil)) (dg_name (i := 5) hN rfl (by first | exact Or.inl rfl | exact Or.inr rfl)) (ds_one (ds_set (i := 4) hN rfl (by first | exact Or.inl rfl | exact Or.inr rfl) (de_addG (dv 4) (de_ixG hu (de_call0 G_law_signs (hr.mono (by decide)) rfl T.g_law_signs T.k_law_signs b_law_signs .nil (fun _ => .nil) pass0) (de_call G_law_draw (hr.mono (by decide)) rfl T.g_law_draw T.k_law_draw b_law_draw .nil (fun _ => .nil) pass0 (dm_slot (pv 0) (dm_val de_int dm_nil))))))))
      (ds_one (ds_ret (dv 4))))))))))
theorem ok_law_ident (T : Txt K mg a) : FnOk P w K mg base CX0 3 a.f_law_ident a.d_law_ident ["_law_tape_here", "_law_used"] (toSp K (nf a) 2 (S_law_ident K a)) := by
  have G_law_kept : FnOk P w K mg base CX0 1 a.f_law_kept a.d_law_kept [] (toSp K (nf a) 0 (S_law_kept a)) := ok_law_kept T
  have b_law_kept := T.b_law_kept
  have G_law_spelled : FnOk P w K mg base CX0 2 a.f_law_spelled a.d_law_spelled ["_law_tape_here", "_law_used"] (toSp K (nf a) 2 (S_law_spelled K a)) := ok_law_spelled T
  have b_law_spelled := T.b_law_spelled
  refine T.F_law_ident.ok sc_law_ident (fun vs H Q E h => h.1) (fun cdv A outer s H vs Q E hr h => ?_)
  have hN := sc_law_ident.nd
  have hu := hu_of hr
  have hu6 := hr.units
  refine body_ok (td := td_law_ident K a) ?_ (by decide) (d_law_ident) h
  exact (ds_cons (ds_set (i := 2) hN rfl (by first | exact Or.inl rfl | exact Or.inr rfl) (de_call G_law_spelled (hr.mono (by decide)) rfl T.g_law_spelled T.k_law_spelled b_law_spelled .nil (fun _ => .nil) pass0 (dm_slot (pv 0) (dm_val (dv 1) dm_nil))))
      (ds_cons (ds_if (DW.dc (dw_and (dc_ninG hu (dv 2) (dv 1)) (dw_and1 (dc_ninG hu (dv 2) (de_call0 G_law_kept (hr.mono (by decide)) rfl T.g_law_kept T.k_law_kept b_law_kept .nil (fun _ => .nil) pass0))))) (ds_one (ds_ret (dv 2))) ds_nil)
      (ds_cons (ds_for PassesOwn.never rfl (di_range1 rfl T.z_range (da_cons (de_addG (de_cb call_lenG cd_lenG rfl T.z_len boot_len (da_cons (dv 1) da_nil)) de_int) da_nil)) (dg_name (i := 3) hN rfl (by first | exact Or.inl rfl | exact Or.inr rfl)) (ds_one (ds_if (dc_ninG hu (de_addG (de_slS (dv 2) do_none (do_some de_int)) (de_ct call_str_int cd_strI rfl T.z_str (by decide +kernel) (da_cons (dv 3) da_nil))) (dv 1)) (ds_one (ds_ret (de_addG (de_slS (dv 2) do_none (do_some de_int)) (de_ct call_str_int cd_strI rfl T.z_str (by decide +kernel) (da_cons (dv 3) da_nil))))) ds_nil)))
      (ds_one (ds_ret (dv 2))))))
theorem ok_law_number (T : Txt K mg a) : FnOk P w K mg base CX0 2 a.f_law_number a.d_law_number ["_law_tape_here"] (toSp K (nf a) 1 (S_law_number K a)) := by
  have G_law_draw : FnOk P w K mg base CX0 1 a.f_law_draw a.d_law_draw ["_law_tape_here", "_law_many"] (toSp K (nf a) 2 (S_law_draw K a)) := ok_law_draw T
  have b_law_draw := T.b_law_draw
  refine T.F_law_number.ok sc_law_number (fun vs H Q E h => h.1) (fun cdv A outer s H vs Q E hr h => ?_)
  have hN := sc_law_number.nd
  have hu := hu_of hr
  have hu6 := hr.units
  refine body_ok (td := td_law_number K a) ?_ (by decide) (d_law_number) h
  exact (ds_cons (ds_if (dc_eqG hu6 (de_call G_law_draw (hr.mono (by decide)) rfl T.g_law_draw T.k_law_draw b_law_draw .nil (fun _ => .nil) pass0 (dm_slot (pv 0) (dm_val de_int dm_nil))) de_int) (ds_one (ds_ret (de_call G_law_draw (hr.mono (by decide)) rfl T.g_law_draw T.k_law_draw b_law_draw .nil (fun _ => .nil) pass0 (dm_slot (pv 0) (dm_val (de_pow de_int de_int) dm_nil))))) ds_nil)
      (ds_one (ds_ret (de_call G_law_draw (hr.mono (by decide)) rfl T.g_law_draw T.k_law_draw b_law_draw .nil (fun _ => .nil) pass0 (dm_slot (pv 0) (dm_val de_int dm_nil))))))
theorem ok_law_pairs (T : Txt K mg a) : FnOk P w K mg base CX0 4 a.f_law_pairs a.d_law_pairs ["_law_script", "_law_first", "_law_last"] (toSp K (nf a) 3 (S_law_pairs a)) := by
  have G_law_draw : FnOk P w K mg base CX0 1 a.f_law_draw a.d_law_draw ["_law_tape_here", "_law_many"] (toSp K (nf a) 2 (S_law_draw K a)) := ok_law_draw T
  have b_law_draw := T.b_law_draw
  have G_law_ident : FnOk P w K mg base CX0 3 a.f_law_ident a.d_law_ident ["_law_tape_here", "_law_used"] (toSp K (nf a) 2 (S_law_ident K a)) := ok_law_ident T
  have b_law_ident := T.b_law_ident
  have G_law_number : FnOk P w K mg base CX0 2 a.f_law_number a.d_law_number ["_law_tape_here"] (toSp K (nf a) 1 (S_law_number K a)) := ok_law_number T
  have b_law_number := T.b_law_number
  have G_law_tape : FnOk P w K mg base CX0 1 a.f_law_tape a.d_law_tape ["_law_script", "_law_k"] (toSpO K (nf a) 2 (S_law_tape K a)) := ok_law_tape T
  have b_law_tape := T.b_law_tape
  refine T.F_law_pairs.ok sc_law_pairs (fun vs H Q E h => h.1) (fun cdv A outer s H vs Q E hr h => ?_)
  have hN := sc_law_pairs.nd
  have hu := hu_of hr
  have hu6 := hr.units
  refine body_ok (td := td_law_pairs K a) ?_ (by decide) (d_law_pairs) h
  exact (ds_cons (ds_setL (i := 3) hN rfl (by first | exact Or.inl rfl | exact Or.inr rfl) da_nil)
      (ds_cons (ds_for PassesOwn.never rfl (di_range2 rfl T.z_range (da_cons (dv 1) (da_cons (dv 2) da_nil))) (dg_name (i := 4) hN rfl (by first | exact Or.inl rfl | exact Or.inr rfl)) (ds_cons (ds_callO (i := 5) hN rfl (by first | exact Or.inl rfl | exact Or.inr rfl) G_law_tape (hr.mono (by decide)) rfl T.g_law_tape T.k_law_tape b_law_tape .nil (fun _ => .nil) pass0 (dm_val (dv 0) (dm_val (dv 4) dm_nil)))
      (ds_cons (ds_set (i := 6) hN rfl (by first | exact Or.inl rfl | exact Or.inr rfl) (de_call G_law_draw (hr.mono (by decide)) rfl T.g_law_draw T.k_law_draw b_law_draw .nil (fun _ => .nil) pass0 (dm_slot (pv 5) (dm_val de_int dm_nil))))
      (ds_cons (ds_set (i := 7) hN rfl (by first | exact Or.inl rfl | exact Or.inr rfl) (de_tup (da_cons (de_call G_law_number (hr.mono (by decide)) rfl T.g_law_number T.k_law_number b_law_number .nil (fun _ => .nil) pass0 (dm_slot (pv 5) dm_nil)) (da_cons (de_call G_law_ident (hr.mono (by decide)) rfl T.g_law_ident T.k_law_ident b_law_ident .nil (fun _ => .nil) pass0 (dm_slot (pv 5) (dm_val (de_lst da_nil) dm_nil))) da_nil))))
      (ds_cons (ds_if (DW.dc (dw_and (dc_neV hu6 (pv 3) (de_lst da_nil)) (dw_and1 (dc_lt (dv 6) de_int)))) (ds_cons (ds_set (i := 8) hN rfl (by first | exact Or.inl rfl | exact Or.inr rfl) (de_ixV (pv 3) (de_call G_law_draw (hr.mono (by decide)) rfl T.g_law_draw T.k_law_draw b_law_draw .nil (fun _ => .nil) pass0 (dm_slot (pv 5) (dm_val (de_lenV rfl T.z_len (pv 3)) dm_nil)))))
      (ds_one (ds_set (i := 7) hN rfl (by first | exact Or.inl rfl | exact Or.inr rfl) (de_ixG hu (de_lst (da_cons (dv 8) (da_cons (de_tup (da_cons (de_ixG hu (dv 8) de_int) (da_cons (de_ixG hu (dv 7) de_int) da_nil))) (da_cons (de_tup (da_cons (de_ixG hu (dv 7) de_int) (da_cons (de_ixG hu (dv 8) de_int) da_nil))) da_nil)))) (dv 6))))) ds_nil)
      (ds_one (ds_app (pv 3) (dv 7))))))))
      (ds_one (ds_ret (de_varF (pv 3))))))
theorem ok_law_ascending (T : Txt K mg a) : FnOk P w K mg base CX0 1 a.f_law_ascending a.d_law_ascending ["_law_pairs_here"] (toSp K (nf a) 1 (S_law_ascending a)) := by
  refine T.F_law_ascending.ok sc_law_ascending (fun vs H Q E h => h.1) (fun cdv A outer s H vs Q E hr h => ?_)
  have hN := sc_law_ascending.nd
  have hu := hu_of hr
  have hu6 := hr.units
  have hu65 := u65 hr
  refine body_ok (td := td_law_ascending K a) ?_ (by decide) (d_law_ascending) h
  exact (ds_cons (ds_setL (i := 1) hN rfl (by first | exact Or.inl rfl | exact Or.inr rfl) da_nil)
      (ds_cons (ds_for PassesOwn.never rfl (di_list (dv 0)) (dg_name (i := 2) hN rfl (by first | exact Or.inl rfl | exact Or.inr rfl)) (ds_one (ds_if (dc_ninXV hu65 (dv 2) (pv 1)) (ds_one (ds_app (pv 1) (dv 2))) ds_nil)))
      (ds_one (ds_ret (de_sortM rfl T.z_sorted (da_cons (de_varF (pv 1)) da_nil))))))
theorem ok_law_agrees (T : Txt K mg a) : FnOk P w K mg base CX0 4 a.f_law_agrees a.d_law_agrees ["_law_made", "_law_due"] (toSp K (nf a) 2 (S_law_agrees a)) := by
  have G_Captures_bool : FnOk P w K mg base CX0 1 a.f_Captures_bool a.d_Captures_bool ["self"] (toSp K (nf a) 1 (S_Captures_bool a)) := ok_Captures_bool T
  have b_Captures_bool := T.b_Captures_bool
  have G_Captures_len : FnOk P w K mg base CX0 1 a.f_Captures_len a.d_Captures_len ["self"] (toSp K (nf a) 1 (S_Captures_len a)) := ok_Captures_len T
  have b_Captures_len := T.b_Captures_len
  have G_Captures_at : FnOk P w K mg base CX0 1 a.f_Captures_at a.d_Captures_at ["self", "number"] (toSp K (nf a) 2 (S_Captures_at a)) := ok_Captures_at T
  have b_Captures_at := T.b_Captures_at
  refine T.F_law_agrees.ok sc_law_agrees (fun vs H Q E h => h.1) (fun cdv A outer s H vs Q E hr h => ?_)
  have hN := sc_law_agrees.nd
  have hu := hu_of hr
  have hu6 := hr.units
  refine body_ok (td := td_law_agrees K a) ?_ (by decide) (d_law_agrees T.i_Captures) h
  exact (ds_cons (ds_if (DW.dc (dw_or (dc_not (dc_val (de_cb call_isi cd_isi rfl T.z_isinstance (by decide +kernel) (da_cons (dv 0) (da_cons (de_gref rfl T.g_Captures) da_nil))))) (dw_or (dc_not (dc_val (de_cb call_isi cd_isi rfl T.z_isinstance (by decide +kernel) (da_cons (de_fld (dv 0) T.c_Captures T.n_Captures_pairs) (da_cons (de_bty rfl T.z_tuple (by decide +kernel)) da_nil))))) (dw_or1 (dc_neG hu6 (de_fld (dv 0) T.c_Captures T.n_Captures_pairs) (de_ct call_tuple_of cd_tuple rfl T.z_tuple (by decide +kernel) (da_cons (dv 1) da_nil))))))) (ds_one (ds_ret de_bl)) ds_nil)
      (ds_cons (ds_if (DW.dc (dw_or (dc_neG hu6 (de_lenOwn G_Captures_len (hr.mono (by decide)) b_Captures_len pass0 ⟨T.m_Captures_len.at_, T.m_Captures_len.fn⟩ rfl T.z_len (dv 0)) (de_cb call_lenG cd_lenG rfl T.z_len boot_len (da_cons (dv 1) da_nil))) (dw_or1 (dc_neG hu6 (de_boolB G_Captures_bool (hr.mono (by decide)) b_Captures_bool pass0 ⟨T.m_Captures_bool.at_, T.m_Captures_bool.fn⟩ rfl T.z_bool (dv 0)) (de_gt (de_cb call_lenG cd_lenG rfl T.z_len boot_len (da_cons (dv 1) da_nil)) de_int))))) (ds_one (ds_ret de_bl)) ds_nil)
      (ds_cons (ds_set (i := 2) hN rfl (by first | exact Or.inl rfl | exact Or.inr rfl) (de_addG (de_lc rfl hN (di_list (dv 1)) (own := [("_law_pair", 3)]) (show BlkOk ["_law_made", "_law_due", "_law_numbers", "_law_pair", "_law_number_here"] (defScope s_law_agrees) _ _ from ⟨rfl, by decide +kernel, by decide +kernel, by decide +kernel, by decide +kernel⟩) (fun s H C cl fp => (dg_name (i := 3) hN rfl (by first | exact Or.inl rfl | exact Or.inr rfl))) (fun s H C cl fp => dts_nil) (fun s H C cl fp => (de_ixG hu (dv 3) de_int))) (de_lst (da_cons de_int (da_cons de_int (da_cons (de_pow de_int de_int) da_nil))))))
      (ds_cons (ds_for PassesOwn.never rfl (di_list (dv 2)) (dg_name (i := 4) hN rfl (by first | exact Or.inl rfl | exact Or.inr rfl)) (ds_one (ds_if (dc_neG hu6 (de_meth (dv 0) T.c_Captures T.m_Captures_at G_Captures_at (hr.mono (by decide)) b_Captures_at .nil (fun _ => .nil) pass0 (dm_val (dv 4) dm_nil)) (de_ct call_tuple_of cd_tuple rfl T.z_tuple (by decide +kernel) (da_cons (de_lc rfl hN (di_list (dv 1)) (own := [("_law_pair", 3)]) (show BlkOk ["_law_made", "_law_due", "_law_numbers", "_law_pair", "_law_number_here"] (defScope s_law_agrees) _ _ from ⟨rfl, by decide +kernel, by decide +kernel, by decide +kernel, by decide +kernel⟩) (fun s H C cl fp => (dg_name (i := 3) hN rfl (by first | exact Or.inl rfl | exact Or.inr rfl))) (fun s H C cl fp => (dts_one (dc_eqG hu6 (de_ixG hu (dv 3) de_int) (dv 4)))) (fun s H C cl fp => (de_ixG hu (dv 3) de_int))) da_nil))) (ds_one (ds_ret de_bl)) ds_nil)))
      (ds_one (ds_ret de_bl))))))
theorem ok_law (T : Txt K mg a) : FnOk P w K mg base CX0 8 a.f_law a.d_law ["_law_script"] (toSp K (nf a) 1 (S_law a)) := by
  have G_Captures_bool : FnOk P w K mg base CX0 1 a.f_Captures_bool a.d_Captures_bool ["self"] (toSp K (nf a) 1 (S_Captures_bool a)) := ok_Captures_bool T
  have b_Captures_bool := T.b_Captures_bool
  have G_Captures_init : FnOk P w K mg base CX0 5 a.f_Captures_init a.d_Captures_init ["self", "pairs"] (toSp K (nf a) 2 (S_Captures_initQ K a)) := ok_Captures_init T
  have b_Captures_init := T.b_Captures_init
  obtain ⟨ds1_Captures_init, hd_Captures_init, b1_Captures_init⟩ := T.b1_Captures_init
  have hdd_Captures_init := T.rd_Captures_init (nf a)
  have G_Captures_len : FnOk P w K mg base CX0 1 a.f_Captures_len a.d_Captures_len ["self"] (toSp K (nf a) 1 (S_Captures_len a)) := ok_Captures_len T
  have b_Captures_len := T.b_Captures_len
  have G_Captures_of : FnR P w K mg base CX0 7 a.f_Captures_of (starSp 1 (toSp K (nf a) 2 (S_Captures_of a))) := ok_Captures_of T
  have G_law_agrees : FnOk P w K mg base CX0 4 a.f_law_agrees a.d_law_agrees ["_law_made", "_law_due"] (toSp K (nf a) 2 (S_law_agrees a)) := ok_law_agrees T
  have b_law_agrees := T.b_law_agrees
  have G_law_ascending : FnOk P w K mg base CX0 1 a.f_law_ascending a.d_law_ascending ["_law_pairs_here"] (toSp K (nf a) 1 (S_law_ascending a)) := ok_law_ascending T
  have b_law_ascending := T.b_law_ascending
  have G_law_draw : FnOk P w K mg base CX0 1 a.f_law_draw a.d_law_draw ["_law_tape_here", "_law_many"] (toSp K (nf a) 2 (S_law_draw K a)) := ok_law_draw T
  have b_law_draw := T.b_law_draw
  have G_law_pairs : FnOk P w K mg base CX0 4 a.f_law_pairs a.d_law_pairs ["_law_script", "_law_first", "_law_last"] (toSp K (nf a) 3 (S_law_pairs a)) := ok_law_pairs T
  have b_law_pairs := T.b_law_pairs
  have G_law_tape : FnOk P w K mg base CX0 1 a.f_law_tape a.d_law_tape ["_law_script", "_law_k"] (toSpO K (nf a) 2 (S_law_tape K a)) := ok_law_tape T
  have b_law_tape := T.b_law_tape
  refine T.F_law.ok sc_law (fun vs H Q E h => h.1) (fun cdv A outer s H vs Q E hr h => ?_)
  have hN := sc_law.nd
  have hu := hu_of hr
  have hu6 := hr.units
  refine body_ok (td := td_law K a) ?_ (by decide) (d_law) h
  exact (ds_cons (ds_set (i := 1) hN rfl (by first | exact Or.inl rfl | exact Or.inr rfl) (de_call G_law_pairs (hr.mono (by decide)) rfl T.g_law_pairs T.k_law_pairs b_law_pairs .nil (fun _ => .nil) pass0 (dm_val (dv 0) (dm_val de_int (dm_val (de_cb (call_min2 rfl) cd_min rfl T.z_min (by decide +kernel) (da_cons de_int (da_cons (de_cb call_len_seq cd_lenR rfl T.z_len boot_len (da_cons (dv 0) da_nil)) da_nil))) dm_nil)))))
      (ds_cons (ds_set (i := 2) hN rfl (by first | exact Or.inl rfl | exact Or.inr rfl) (de_call G_law_ascending (hr.mono (by decide)) rfl T.g_law_ascending T.k_law_ascending b_law_ascending .nil (fun _ => .nil) pass0 (dm_val (dv 1) dm_nil)))
      (ds_cons (ds_setLL (i := 3) hN rfl (by first | exact Or.inl rfl | exact Or.inr rfl) rfl T.z_list (da_cons (dv 1) da_nil))
      (ds_cons (ds_if (dc_eqG hu6 (de_callT G_law_draw (hr.mono (by decide)) rfl T.g_law_draw T.k_law_draw b_law_draw pass0 G_law_tape (hr.mono (by decide)) rfl T.g_law_tape T.k_law_tape b_law_tape pass0 (dm_val (dv 0) (dm_val de_int dm_nil)) (dm_val de_int dm_nil)) de_int) (ds_one (ds_set (i := 4) hN rfl (by first | exact Or.inl rfl | exact Or.inr rfl) (de_make T.mk_Captures G_Captures_init (hr.mono (by decide)) rfl T.g_Captures b_Captures_init .nil (fun _ => .nil) pass0 (dm_val (de_ct call_tuple_of cd_tuple rfl T.z_tuple (by decide +kernel) (da_cons (dv 1) da_nil)) dm_nil)))) (ds_one (ds_set (i := 4) hN rfl (by first | exact Or.inl rfl | exact Or.inr rfl) (de_make T.mk_Captures G_Captures_init (hr.mono (by decide)) rfl T.g_Captures b_Captures_init .nil (fun _ => .nil) pass0 (dm_slot (pv 3) dm_nil)))))
      (ds_cons (ds_if (dc_neV hu6 (pv 3) (dv 1)) (ds_one (ds_ret de_bl)) ds_nil)
      (ds_cons (ds_clear (pv 3))
      (ds_cons (ds_if (dc_not (dc_val (de_call G_law_agrees (hr.mono (by decide)) rfl T.g_law_agrees T.k_law_agrees b_law_agrees .nil (fun _ => .nil) pass0 (dm_val (dv 4) (dm_val (dv 2) dm_nil))))) (ds_one (ds_ret de_bl)) ds_nil)
      (ds_cons (ds_set (i := 5) hN rfl (by first | exact Or.inl rfl | exact Or.inr rfl) (de_addG (de_slL (dv 1) do_none (do_some de_int)) (de_lst (da_cons (de_tup (da_cons de_int (da_cons de_str da_nil))) da_nil))))
      (ds_cons (ds_if (dc_not (dc_val (de_call G_law_agrees (hr.mono (by decide)) rfl T.g_law_agrees T.k_law_agrees b_law_agrees .nil (fun _ => .nil) pass0 (dm_val (de_cmethS (de_gref rfl T.g_Captures) T.cr_Captures T.cm_Captures_of G_Captures_of (hr.mono (by decide)) pass0 (da_cons (de_ixG hu (dv 5) (de_neg de_int)) (da_cons (de_ixG hu (dv 5) de_int) (da_cons (de_ixG hu (dv 5) de_int) (da_cons (de_ixG hu (dv 5) (de_div (de_cb call_lenG cd_lenG rfl T.z_len boot_len (da_cons (dv 5) da_nil)) de_int)) da_nil))))) (dm_val (de_call G_law_ascending (hr.mono (by decide)) rfl T.g_law_ascending T.k_law_ascending b_law_ascending .nil (fun _ => .nil) pass0 (dm_val (dv 5) dm_nil)) dm_nil))))) (ds_one (ds_ret de_bl)) ds_nil)
      (ds_cons (ds_set (i := 6) hN rfl (by first | exact Or.inl rfl | exact Or.inr rfl) (de_cmethS (de_gref rfl T.g_Captures) T.cr_Captures T.cm_Captures_of G_Captures_of (hr.mono (by decide)) pass0 (da_cons (de_tup (da_cons de_int (da_cons de_str da_nil))) da_nil)))
      (ds_cons (ds_set (i := 7) hN rfl (by first | exact Or.inl rfl | exact Or.inr rfl) (de_make0 T.mk_Captures G_Captures_init (hr.mono (by decide)) rfl T.g_Captures b1_Captures_init hd_Captures_init hdd_Captures_init pass0 ))
      (ds_cons (ds_if (DW.dc (dw_or (dc_neG hu6 (de_fld (dv 6) T.c_Captures T.n_Captures_pairs) (de_tup (da_cons (de_tup (da_cons de_int (da_cons de_str da_nil))) da_nil))) (dw_or (dc_neG hu6 (de_fld (dv 7) T.c_Captures T.n_Captures_pairs) (de_tup da_nil)) (dw_or (dc_neG hu6 (de_lenOwn G_Captures_len (hr.mono (by decide)) b_Captures_len pass0 ⟨T.m_Captures_len.at_, T.m_Captures_len.fn⟩ rfl T.z_len (dv 7)) de_int) (dw_or1 (dc_val (de_boolB G_Captures_bool (hr.mono (by decide)) b_Captures_bool pass0 ⟨T.m_Captures_bool.at_, T.m_Captures_bool.fn⟩ rfl T.z_bool (dv 7)))))))) (ds_one (ds_ret de_bl)) ds_nil)
      (ds_one (ds_ret (de_call G_law_agrees (hr.mono (by decide)) rfl T.g_law_agrees T.k_law_agrees b_law_agrees .nil (fun _ => .nil) pass0 (dm_val (dv 4) (dm_val (dv 2) dm_nil)))))))))))))))))
end
end K01

namespace K01
open PySem L2 DL

end K01

namespace DH
open PySem L2 DL
open PySem.W (Frag)
theorem ops_ok {K : Frag} {x : Str} {nm : String} {m r : Str} (h : opsB K x nm m r = true) : OpC K (He.ga K x) nm (He.ma K (He.ga K x) m) ∧ OpB K (He.ga K x) nm (He.ma K (He.ga K x) m) (He.ma K (He.ga K x) r) ∧
    OpT K (He.ga K x) nm "list" (some (.ref (He.ma K (He.ga K x) r))) none none ∧ OpT K (He.ga K x) nm "tuple" (some (.ref (He.ma K (He.ga K x) r))) none none := by
  unfold opsB at h
  obtain ⟨h1, h⟩ := and2 h
  obtain ⟨h2, h⟩ := and2 h
  obtain ⟨h3, h⟩ := and2 h
  obtain ⟨h4, h⟩ := and2 h
  obtain ⟨h5, h⟩ := and2 h
  obtain ⟨h6, h⟩ := and2 h
  obtain ⟨h7, h⟩ := and2 h
  obtain ⟨h8, h⟩ := and2 h
  obtain ⟨h9, h⟩ := and2 h
  obtain ⟨h10, h11⟩ := and2 h
  exact ⟨⟨h1, He.eqO_ok h2, h3⟩, ⟨h1, He.eqO_ok h2, He.eqO_ok h4, h5⟩, ⟨He.eqO_ok h4, .inr ⟨_, rfl⟩, He.eqO_ok h6, He.eqO_ok h7, of_decide_eq_true h8⟩, ⟨He.eqO_ok h4, .inr ⟨_, rfl⟩, He.eqO_ok h9, He.eqO_ok h10, of_decide_eq_true h11⟩⟩
theorem tup0_ok {K : Frag} {e : Addr} (h : tup0B K e = true) (nf : Addr → Nat) (H : Hp) : Rels K nf H [.ref e] [.tup []] := by
  unfold tup0B at h
  split at h
  · rename_i c d its n sl lk
    obtain ⟨h1, h2⟩ := and2 h
    have e1 := of_decide_eq_true h1
    have e2 := of_decide_eq_true h2
    subst e1
    exact .cons (.tup (.inr ⟨_, its, n, lk, rfl, rfl, by rw [← Array.length_toList, e2]; exact Nat.zero_le _, by rw [e2]; exact .nil⟩) .nil) .nil
  · cases h
theorem cm_ok {K : Frag} {x m : Str} (h : cmB K x m = true) : ClX.CMet K (He.ga K x) (.type "type") m (He.ma K (He.ga K x) m) (He5.wf K (He.ga K x) "classmethod" m) := by
  obtain ⟨h1, h2⟩ := and2 h
  exact He5.cmet_of h1 h2
theorem cr_ok {K : Frag} {x : Str} (h : crB K x = true) : ClX.CRead K (He.ga K x) (.type "type") := by
  obtain ⟨h1, h2⟩ := and2 h
  exact ⟨h1, He.eqO_ok h2⟩
end DH

namespace K01
open PySem L2 DL

theorem facts {w : World} {K : PySem.W.Frag} {h : Heap} {mg : Str → Option Value} {fa : Addr} (X : K.In h) (G : h.Ns mainGlobals mg) (hfa : mg "law" = some (.ref fa)) (c : DH.obsK ask K = DH.valA ask) :
    ∃ (fd : FuncData) (a : Ad), (∀ (s : Shared) (v : Value), BindsTo s fd ⟨[v], []⟩ [("_law_script", v)]) ∧ ∀ base : Heap, K.In base → base.Ns mainGlobals mg → FnOk (PySem.Challenge.rw_bindspan_k01_captures_hold_pairs).prog w K mg base CX0 8 fa fd ["_law_script"] (toSp K (nf a) 1 (S_law a)) := by
  have e := hfa.symm.trans (He.glo_ok X G (DH.says_fa c 14 rfl))
  cases e
  obtain ⟨d_is_word, F0_is_word⟩ := DH.says_fn c 0 (d := df_is_word) rfl
  have F_is_word : Fun K "is_word" "is_word" s_is_word (He.ga K "is_word") d_is_word := DH.fun_of F0_is_word
  have b_is_word := F_is_word.binds (ps := ["value"]) fun _ _ _ _ _ _ us hl => match us, hl with | [_], _ => rfl
  obtain ⟨d_is_identifier, F0_is_identifier⟩ := DH.says_fn c 1 (d := df_is_identifier) rfl
  have F_is_identifier : Fun K "is_identifier" "is_identifier" s_is_identifier (He.ga K "is_identifier") d_is_identifier := DH.fun_of F0_is_identifier
  have b_is_identifier := F_is_identifier.binds (ps := ["value"]) fun _ _ _ _ _ _ us hl => match us, hl with | [_], _ => rfl
  obtain ⟨d_is_pair, F0_is_pair⟩ := DH.says_fn c 2 (d := df_is_pair) rfl
  have F_is_pair : Fun K "is_pair" "is_pair" s_is_pair (He.ga K "is_pair") d_is_pair := DH.fun_of F0_is_pair
  have b_is_pair := F_is_pair.binds (ps := ["value"]) fun _ _ _ _ _ _ us hl => match us, hl with | [_], _ => rfl
  obtain ⟨d_in_order, F0_in_order⟩ := DH.says_fn c 3 (d := df_in_order) rfl
  have F_in_order : Fun K "in_order" "in_order" s_in_order (He.ga K "in_order") d_in_order := DH.fun_of F0_in_order
  have b_in_order := F_in_order.binds (ps := ["pairs"]) fun _ _ _ _ _ _ us hl => match us, hl with | [_], _ => rfl
  obtain ⟨d_Captures_init, F0_Captures_init⟩ := DH.says_fn c 4 (d := df_Captures_init) rfl
  have F_Captures_init : FunD K "__init__" "Captures.__init__" (defArgs s_Captures_init) (defBody s_Captures_init) (defScope s_Captures_init) [.ref (He.dflAt ("Captures", some "__init__") 0 K)] [] (He.ma K (He.ga K "Captures") "__init__") d_Captures_init := F0_Captures_init
  obtain ⟨ds_Captures_init, vd_Captures_init, b_Captures_init⟩ := F_Captures_init.binds1 (ps := ["self", "pairs"]) 2 1 (by simp) rfl (fun T kV doc pm an cdv ct us its hu hi => match us, hu, its, hi with | [_, _], _, [_], _ => ⟨_, rfl, rfl⟩)
  cases vd_Captures_init
  obtain ⟨es1_Captures_init, vs1_Captures_init, bs1_Captures_init⟩ := F_Captures_init.binds1 (ps := ["self", "pairs"]) 1 0 (by simp) rfl (fun T kV doc pm an cdv ct us its hu hi => match us, hu, its, hi with | [_], _, [_], _ => ⟨_, rfl, rfl⟩)
  obtain ⟨d_Captures_of, F0_Captures_of⟩ := DH.says_fnA c 0 (d := df_Captures_of) rfl
  have F_Captures_of : Fun K "of" "Captures.of" s_Captures_of (He5.wf K (He.ga K "Captures") "classmethod" "of") d_Captures_of := DH.fun_of F0_Captures_of
  obtain ⟨d_Captures_len, F0_Captures_len⟩ := DH.says_fn c 5 (d := df_Captures_len) rfl
  have F_Captures_len : Fun K "__len__" "Captures.__len__" s_Captures_len (He.ma K (He.ga K "Captures") "__len__") d_Captures_len := DH.fun_of F0_Captures_len
  have b_Captures_len := F_Captures_len.binds (ps := ["self"]) fun _ _ _ _ _ _ us hl => match us, hl with | [_], _ => rfl
  obtain ⟨d_Captures_bool, F0_Captures_bool⟩ := DH.says_fn c 6 (d := df_Captures_bool) rfl
  have F_Captures_bool : Fun K "__bool__" "Captures.__bool__" s_Captures_bool (He.ma K (He.ga K "Captures") "__bool__") d_Captures_bool := DH.fun_of F0_Captures_bool
  have b_Captures_bool := F_Captures_bool.binds (ps := ["self"]) fun _ _ _ _ _ _ us hl => match us, hl with | [_], _ => rfl
  obtain ⟨d_Captures_at, F0_Captures_at⟩ := DH.says_fn c 7 (d := df_Captures_at) rfl
  have F_Captures_at : Fun K "at" "Captures.at" s_Captures_at (He.ma K (He.ga K "Captures") "at") d_Captures_at := DH.fun_of F0_Captures_at
  have b_Captures_at := F_Captures_at.binds (ps := ["self", "number"]) fun _ _ _ _ _ _ us hl => match us, hl with | [_, _], _ => rfl
  obtain ⟨d_law_tape, F0_law_tape⟩ := DH.says_fn c 8 (d := df_law_tape) rfl
  have F_law_tape : Fun K "_law_tape" "_law_tape" s_law_tape (He.ga K "_law_tape") d_law_tape := DH.fun_of F0_law_tape
  have b_law_tape := F_law_tape.binds (ps := ["_law_script", "_law_k"]) fun _ _ _ _ _ _ us hl => match us, hl with | [_, _], _ => rfl
  obtain ⟨d_law_draw, F0_law_draw⟩ := DH.says_fn c 9 (d := df_law_draw) rfl
  have F_law_draw : Fun K "_law_draw" "_law_draw" s_law_draw (He.ga K "_law_draw") d_law_draw := DH.fun_of F0_law_draw
  have b_law_draw := F_law_draw.binds (ps := ["_law_tape_here", "_law_many"]) fun _ _ _ _ _ _ us hl => match us, hl with | [_, _], _ => rfl
  obtain ⟨d_law_kept, F0_law_kept⟩ := DH.says_fn c 10 (d := df_law_kept) rfl
  have F_law_kept : Fun K "_law_kept" "_law_kept" s_law_kept (He.ga K "_law_kept") d_law_kept := DH.fun_of F0_law_kept
  have b_law_kept := F_law_kept.binds (ps := []) fun _ _ _ _ _ _ us hl => match us, hl with | [], _ => rfl
  obtain ⟨d_law_signs, F0_law_signs⟩ := DH.says_fn c 11 (d := df_law_signs) rfl
  have F_law_signs : Fun K "_law_signs" "_law_signs" s_law_signs (He.ga K "_law_signs") d_law_signs := DH.fun_of F0_law_signs
  have b_law_signs := F_law_signs.binds (ps := []) fun _ _ _ _ _ _ us hl => match us, hl with | [], _ => rfl
  obtain ⟨d_law_spelled, F0_law_spelled⟩ := DH.says_fn c 12 (d := df_law_spelled) rfl
  have F_law_spelled : Fun K "_law_spelled" "_law_spelled" s_law_spelled (He.ga K "_law_spelled") d_law_spelled := DH.fun_of F0_law_spelled
  have b_law_spelled := F_law_spelled.binds (ps := ["_law_tape_here", "_law_used"]) fun _ _ _ _ _ _ us hl => match us, hl with | [_, _], _ => rfl
  obtain ⟨d_law_ident, F0_law_ident⟩ := DH.says_fn c 13 (d := df_law_ident) rfl
  have F_law_ident : Fun K "_law_ident" "_law_ident" s_law_ident (He.ga K "_law_ident") d_law_ident := DH.fun_of F0_law_ident
  have b_law_ident := F_law_ident.binds (ps := ["_law_tape_here", "_law_used"]) fun _ _ _ _ _ _ us hl => match us, hl with | [_, _], _ => rfl
  obtain ⟨d_law_number, F0_law_number⟩ := DH.says_fn c 14 (d := df_law_number) rfl
  have F_law_number : Fun K "_law_number" "_law_number" s_law_number (He.ga K "_law_number") d_law_number := DH.fun_of F0_law_number
  have b_law_number := F_law_number.binds (ps := ["_law_tape_here"]) fun _ _ _ _ _ _ us hl => match us, hl with | [_], _ => rfl
  obtain ⟨d_law_pairs, F0_law_pairs⟩ := DH.says_fn c 15 (d := df_law_pairs) rfl
  have F_law_pairs : Fun K "_law_pairs" "_law_pairs" s_law_pairs (He.ga K "_law_pairs") d_law_pairs := DH.fun_of F0_law_pairs
  have b_law_pairs := F_law_pairs.binds (ps := ["_law_script", "_law_first", "_law_last"]) fun _ _ _ _ _ _ us hl => match us, hl with | [_, _, _], _ => rfl
  obtain ⟨d_law_ascending, F0_law_ascending⟩ := DH.says_fn c 16 (d := df_law_ascending) rfl
  have F_law_ascending : Fun K "_law_ascending" "_law_ascending" s_law_ascending (He.ga K "_law_ascending") d_law_ascending := DH.fun_of F0_law_ascending
  have b_law_ascending := F_law_ascending.binds (ps := ["_law_pairs_here"]) fun _ _ _ _ _ _ us hl => match us, hl with | [_], _ => rfl
  obtain ⟨d_law_agrees, F0_law_agrees⟩ := DH.says_fn c 17 (d := df_law_agrees) rfl
  have F_law_agrees : Fun K "_law_agrees" "_law_agrees" s_law_agrees (He.ga K "_law_agrees") d_law_agrees := DH.fun_of F0_law_agrees
  have b_law_agrees := F_law_agrees.binds (ps := ["_law_made", "_law_due"]) fun _ _ _ _ _ _ us hl => match us, hl with | [_, _], _ => rfl
  obtain ⟨d_law, F0_law⟩ := DH.says_fn c 18 (d := df_law) rfl
  have F_law : Fun K "law" "law" s_law (He.ga K "law") d_law := DH.fun_of F0_law
  have b_law := F_law.binds (ps := ["_law_script"]) fun _ _ _ _ _ _ us hl => match us, hl with | [_], _ => rfl
  obtain ⟨t_LETTERS, g_LETTERS⟩ := He.str_ok X G (DH.says_fa c 34 rfl)
  obtain ⟨t_DIGITS, g_DIGITS⟩ := He.str_ok X G (DH.says_fa c 35 rfl)
  obtain ⟨t_LONGEST, g_LONGEST⟩ := He.int_ok X G (DH.says_fa c 36 rfl)
  obtain ⟨t_MOST_NUMBER, g_MOST_NUMBER⟩ := He.int_ok X G (DH.says_fa c 38 rfl)
  have x0 : exs K = true := (DH.says_b c).2.2.2
  unfold exs at x0
  obtain ⟨y0, x1⟩ := DH.and2 x0
  obtain ⟨y1, x2⟩ := DH.and2 x1
  obtain ⟨y2, x3⟩ := DH.and2 x2
  obtain ⟨y3, x4⟩ := DH.and2 x3
  have y4 := x4
  have T : Txt K mg ({ C_Captures := He.ga K "Captures", f_is_word := (He.ga K "is_word"), d_is_word := d_is_word, f_is_identifier := (He.ga K "is_identifier"), d_is_identifier := d_is_identifier, f_is_pair := (He.ga K "is_pair"), d_is_pair := d_is_pair, f_in_order := (He.ga K "in_order"), d_in_order := d_in_order, f_Captures_init := (He.ma K (He.ga K "Captures") "__init__"), d_Captures_init := d_Captures_init, f_Captures_of := (He5.wf K (He.ga K "Captures") "classmethod" "of"), d_Captures_of := d_Captures_of, f_Captures_len := (He.ma K (He.ga K "Captures") "__len__"), d_Captures_len := d_Captures_len, f_Captures_bool := (He.ma K (He.ga K "Captures") "__bool__"), d_Captures_bool := d_Captures_bool, f_Captures_at := (He.ma K (He.ga K "Captures") "at"), d_Captures_at := d_Captures_at, f_law_tape := (He.ga K "_law_tape"), d_law_tape := d_law_tape, f_law_draw := (He.ga K "_law_draw"), d_law_draw := d_law_draw, f_law_kept := (He.ga K "_law_kept"), d_law_kept := d_law_kept, f_law_signs := (He.ga K "_law_signs"), d_law_signs := d_law_signs, f_law_spelled := (He.ga K "_law_spelled"), d_law_spelled := d_law_spelled, f_law_ident := (He.ga K "_law_ident"), d_law_ident := d_law_ident, f_law_number := (He.ga K "_law_number"), d_law_number := d_law_number, f_law_pairs := (He.ga K "_law_pairs"), d_law_pairs := d_law_pairs, f_law_ascending := (He.ga K "_law_ascending"), d_law_ascending := d_law_ascending, f_law_agrees := (He.ga K "_law_agrees"), d_law_agrees := d_law_agrees, f_law := (He.ga K "law"), d_law := d_law, t_LETTERS := t_LETTERS, t_DIGITS := t_DIGITS, t_LONGEST := t_LONGEST, p_KEPT := He.ga K "KEPT", t_MOST_NUMBER := t_MOST_NUMBER, e_Captures := He.dflAt ("Captures", some "__init__") 0 K, p_Captures_of := He.ma K (He.ga K "Captures") "of" } : Ad) :=
    { F_is_word := F_is_word,
      b_is_word := b_is_word,
      g_is_word := He.glo_ok X G (DH.says_fa c 0 rfl),
      k_is_word := F_is_word.kp,
      F_is_identifier := F_is_identifier,
      b_is_identifier := b_is_identifier,
      g_is_identifier := He.glo_ok X G (DH.says_fa c 1 rfl),
      k_is_identifier := F_is_identifier.kp,
      F_is_pair := F_is_pair,
      b_is_pair := b_is_pair,
      g_is_pair := He.glo_ok X G (DH.says_fa c 2 rfl),
      k_is_pair := F_is_pair.kp,
      F_in_order := F_in_order,
      b_in_order := b_in_order,
      g_in_order := He.glo_ok X G (DH.says_fa c 3 rfl),
      k_in_order := F_in_order.kp,
      F_Captures_init := F_Captures_init,
      b_Captures_init := b_Captures_init,
      b1_Captures_init := ⟨_, vs1_Captures_init, bs1_Captures_init⟩,
      rd_Captures_init := fun nf H => DH.tup0_ok y4 nf H,
      mk_Captures := He.mkr_ok (DH.says_fa c 30 rfl),
      F_Captures_of := F_Captures_of,
      cm_Captures_of := DH.cm_ok y1,
      F_Captures_len := F_Captures_len,
      b_Captures_len := b_Captures_len,
      m_Captures_len := He.meth_ok (DH.says_fa c 31 rfl),
      F_Captures_bool := F_Captures_bool,
      b_Captures_bool := b_Captures_bool,
      m_Captures_bool := He.meth_ok (DH.says_fa c 32 rfl),
      F_Captures_at := F_Captures_at,
      b_Captures_at := b_Captures_at,
      m_Captures_at := He.meth_ok (DH.says_fa c 33 rfl),
      F_law_tape := F_law_tape,
      b_law_tape := b_law_tape,
      g_law_tape := He.glo_ok X G (DH.says_fa c 4 rfl),
      k_law_tape := F_law_tape.kp,
      F_law_draw := F_law_draw,
      b_law_draw := b_law_draw,
      g_law_draw := He.glo_ok X G (DH.says_fa c 5 rfl),
      k_law_draw := F_law_draw.kp,
      F_law_kept := F_law_kept,
      b_law_kept := b_law_kept,
      g_law_kept := He.glo_ok X G (DH.says_fa c 6 rfl),
      k_law_kept := F_law_kept.kp,
      F_law_signs := F_law_signs,
      b_law_signs := b_law_signs,
      g_law_signs := He.glo_ok X G (DH.says_fa c 7 rfl),
      k_law_signs := F_law_signs.kp,
      F_law_spelled := F_law_spelled,
      b_law_spelled := b_law_spelled,
      g_law_spelled := He.glo_ok X G (DH.says_fa c 8 rfl),
      k_law_spelled := F_law_spelled.kp,
      F_law_ident := F_law_ident,
      b_law_ident := b_law_ident,
      g_law_ident := He.glo_ok X G (DH.says_fa c 9 rfl),
      k_law_ident := F_law_ident.kp,
      F_law_number := F_law_number,
      b_law_number := b_law_number,
      g_law_number := He.glo_ok X G (DH.says_fa c 10 rfl),
      k_law_number := F_law_number.kp,
      F_law_pairs := F_law_pairs,
      b_law_pairs := b_law_pairs,
      g_law_pairs := He.glo_ok X G (DH.says_fa c 11 rfl),
      k_law_pairs := F_law_pairs.kp,
      F_law_ascending := F_law_ascending,
      b_law_ascending := b_law_ascending,
      g_law_ascending := He.glo_ok X G (DH.says_fa c 12 rfl),
      k_law_ascending := F_law_ascending.kp,
      F_law_agrees := F_law_agrees,
      b_law_agrees := b_law_agrees,
      g_law_agrees := He.glo_ok X G (DH.says_fa c 13 rfl),
      k_law_agrees := F_law_agrees.kp,
      F_law := F_law,
      b_law := b_law,
      g_law := He.glo_ok X G (DH.says_fa c 14 rfl),
      k_law := F_law.kp,
      cr_Captures := DH.cr_ok y2,
      c_Captures := He.cls_ok (DH.says_fa c 28 rfl),
      i_Captures := DH.isi_of (He.cls_ok (DH.says_fa c 28 rfl)) y0,
      g_Captures := He.glo_ok X G (DH.says_fa c 15 rfl),
      n_Captures_pairs := He.noat_ok (DH.says_fa c 29 rfl),
      z_set := He.free_ok X G (DH.says_fa c 16 rfl),
      z_min := He.free_ok X G (DH.says_fa c 17 rfl),
      z_len := He.free_ok X G (DH.says_fa c 18 rfl),
      z_int := He.free_ok X G (DH.says_fa c 19 rfl),
      z_str := He.free_ok X G (DH.says_fa c 20 rfl),
      z_all := He.free_ok X G (DH.says_fa c 21 rfl),
      z_tuple := He.free_ok X G (DH.says_fa c 22 rfl),
      z_list := He.free_ok X G (DH.says_fa c 23 rfl),
      z_sorted := He.free_ok X G (DH.says_fa c 24 rfl),
      z_isinstance := He.free_ok X G (DH.says_fa c 25 rfl),
      z_range := He.free_ok X G (DH.says_fa c 26 rfl),
      z_bool := He.free_ok X G (DH.says_fa c 27 rfl),
      g_LETTERS := g_LETTERS,
      g_DIGITS := g_DIGITS,
      g_LONGEST := g_LONGEST,
      g_KEPT := He.glo_ok X G (DH.says_fa c 37 rfl),
      r_KEPT := fun nf H => .tup (He.tupB_ok y3 H) (by unfold tv_KEPT; simp only [List.map_cons, List.map_nil]; repeat first | exact Rels.nil | refine Rels.cons (Rel.str _) ?_),
      g_MOST_NUMBER := g_MOST_NUMBER }
  have bl : ∀ (s : Shared) (v : Value), BindsTo s d_law ⟨[v], []⟩ [("_law_script", v)] := by
    obtain ⟨oc, od, kV, doc, pm, an, cdv, ct, osl, e, _, _⟩ := F_law.ex
    rw [e]
    exact fun s v => .of_eq rfl
  exact ⟨_, _, bl, fun base _ _ => ok_law T⟩
end K01
open PySem PySem.W PySem.Calls PyProof.Rows
theorem PySem.Challenge.cw_bindspan_k01_captures_hold_pairs_holds : PySem.Challenge.rw_bindspan_k01_captures_hold_pairs.Holds := by
  w_on; o_law
  refine HandSHeadRun.head_any (r := K01.R) (q := view K01.R.prog [33]) (H := DH.hook K01.ask) (ob := fun s => DH.obsA K01.ask (HandSHeadRun.getT s)) (M := 20000) (loose := K01.names) (d := HandSHeadRun.topDef K01.R.prog 33) (kwd := []) (DH.obs_eq K01.ask)
    (by kernel_rfl) (fun s => by kernel_rfl) K01.run (by kernel_rfl) (by kernel_rfl) (by kernel_rfl) (by rfl) (by first | assumption | decide +kernel) (by decide +kernel) ⟨rfl, rfl, rfl, rfl, rfl, by decide +kernel⟩ ?hw ?hc
  case hw => w_witness2
  case hc =>
    refine L2.walk_ofE (l := PySem.Challenge.rw_bindspan_k01_captures_hold_pairs) (n := 63) (k := 8) (x := "_law_script") (CX := L2.CX0) rfl (by decide) (by kernel_rfl) ⟨rfl, by decide, by decide⟩ ?F (fun _ _ _ _ z => z)
    intro w mg fa h Y G hmg0
    obtain ⟨K, KX, c⟩ := Y
    have hmg : mg ("law" : PySem.Str) = some (.ref fa) := by
      have e : (HandSHeadRun.topDef K01.R.prog 33).name = ("law" : PySem.Str) := by kernel_rfl
      rw [← e]
      exact hmg0
    obtain ⟨fd, a, hb, hF⟩ := K01.facts (w := w) KX G hmg c
    exact ⟨K, fd, DL.toSp K (K01.nf a) 1 (K01.S_law a), KX, hb, fun H b ns hl hO hS => DL.toSp_start hO hS ⟨ns, rfl, hl, rfl⟩, hF⟩
#print axioms PySem.Challenge.cw_bindspan_k01_captures_hold_pairs_holds
