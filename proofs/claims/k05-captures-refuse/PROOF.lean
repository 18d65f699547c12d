import PyProof.Rows.All
import Wide.All
import OpenK.AllK
import Wide.FinOn
import KE.KStateDown
import HandS.Words
import HandS.WordsExc
import HandS.Defaults
import HandS.Head0
import HandS.Head1
import HandS.Head2
import HandS.HeadEnd
import HandS.HeadHook1
import HandS.HeadHook2
import HandS.Exc
import HandS.HeadNt
import HandS.HeadHook3
import HandS.HeadHook4
import HandS.ForMost
import HandS.DictComp
import HandS.IsInst
import HandS.FStr
import HandS.Wide
import HandS.WideBits
import HandS.Conv
import HandS.Nested
import HandS.Walk
import HandS.More
import HandS.ListItems
import KE.KOpsOwn
import PyProof.DictUpdate
import PyProof.TwoTypes
import HandS.WordsDict
import HandS.Ends
import HandS.ForExc
import HandS.CallSlots
import KE.KExcSuper
import HandS.ExcInit
import HandS.ExcSuper
import KE.KExcIs
import HandS.Zip
import KE.GoesEnum
import HandS.ExcValue
import HandS.ListEq
import HandS.DictEq
import HandS.DeepEq
import HandS.SlotsOwn
import HandS.Style
import HandS.Deep
import HandS.TupAny
import HandS.Flt
import HandS.TupSets
import HandS.SortOrd
import HandS.SortRule
import KE.KSortTupAny
import KE.KCallOwn
import HandS.RaiseMore
import HandS.ClsMeth
import HandS.Text
import HandS.Codes
import HandS.Rev
import KE.KDictList
import HandS.Star
import HandS.HotCalls
import PyProof.StrOps2
import PySem.Challenge.RW_bindspan_k05_captures_refuse
set_option Elab.async false
set_option linter.all false
set_option maxRecDepth 100000
set_option maxHeartbeats 0
inductive BxP (p : Prop) : Prop
  | mk : p → BxP p
theorem bxI {p : Prop} (h : p) : BxP p = True := eq_true (BxP.mk h)
theorem bxU {p : Prop} (h : BxP p) : p := by cases h; assumption
namespace DL
end DL
namespace DH
open PySem PySem.Spec PyProof.Rows L2 DL
open PySem.W (Frag findIn nsIn keepIn subIn typeIn hasDictIn clsIn mroIn alongIn specialIn takesIn codeIn kitOne)
abbrev eqO := He.eqO
structure SupQ where
  cls : Str
  st : Stmt
  fl : List Str
abbrev SupV : Type := Option (Arguments × FuncBody × Scope)
def initA (K : Frag) (x : Str) : Addr := He.ma K (He.ga K x) "__init__"
def supV (K : Frag) (q : SupQ) : SupV := match K.lookup (initA K q.cls) with
  | some ⟨_, _, .func fd, _⟩ => some (fd.params, fd.body, fd.scope)
  | _ => none
def SupQ.val (q : SupQ) : SupV := some (defArgs q.st, .stmts (defBody q.st), defScope q.st)
def shB (K : Frag) (C : Addr) : Bool := match K.lookup C with
  | some ⟨.type t, _, .cls cd, sl⟩ => decide (t = "type") && (match cd.mro, sl.toList with
    | .ref C' :: bm, [_, _, _, _, some (.builtin n), _] => decide (C' = C) && (decide (n = "ValueError.__new__") && (!cd.hasDel && (cd.hasDict && (PySem.HandSPX.refsVE bm && eqO (alongIn K "__init__" bm) (some (some (.builtin "ValueError.__init__")))))))
    | _, _ => false)
  | _ => false
def fileB (K : Frag) (file : Str) : Value → Bool
  | .ref c => (match K.lookup c with
    | some ⟨_, _, .fields vs, _⟩ => (match (vs[2]? : Option Value) with
      | some (.str z _) => file == z
      | _ => false)
    | _ => false)
  | _ => false
def cellB (K : Frag) (C : Addr) (cl : List (Str × Addr)) : Bool := match cl.lookup ("__class__" : Str) with
  | some cc => (match K.lookup cc with
    | some ⟨_, _, .cell (some (.ref C')), _⟩ => decide (C' = C)
    | _ => false)
  | none => false
def noneB : Value → Bool
  | .none => true
  | _ => false
def funB (K : Frag) (file : Str) (C fI : Addr) : Bool := match K.lookup fI with
  | some ⟨_, _, .func fd, _⟩ => decide (fd.globals = mainGlobals) && (decide (fd.builtins = builtinsNs) && (noneB fd.defaults && (codeIn K fd.code fd.qualname && (fileB K file fd.code && cellB K C fd.closure))))
  | _ => false
def supB (K : Frag) (file : Str) (q : SupQ) : Bool :=
  shB K (He.ga K q.cls) && (eqO (findIn K (.ref (He.ga K q.cls)) "__setattr__") (some (some (.builtin "object.__setattr__"))) && (eqO (findIn K (.ref (He.ga K q.cls)) "__getattribute__") (some (some (.builtin "BaseException.__getattribute__"))) &&
  (eqO (findIn K (.ref (He.ga K q.cls)) "__getattr__") (some none) && (q.fl.all (fun f => eqO (findIn K (.ref (He.ga K q.cls)) f) (some none)) && (eqO (findIn K (.ref (He.ga K q.cls)) "__init__") (some (some (.ref (initA K q.cls)))) &&
  (decide (typeIn K (.ref (initA K q.cls)) = some (.type "function")) && (keepIn K (.ref (He.ga K q.cls)) && (decide (subIn K (.ref (He.ga K q.cls)) (.type "BaseException") = some true) && (decide (subIn K (.ref (He.ga K q.cls)) (.type "ValueError") = some true) &&
  (eqO (nsIn K cStatics "thirdparty.any") (some none) && funB K file (He.ga K q.cls) (initA K q.cls)))))))))))
def exiB (K : Frag) (C : Addr) : Bool := (clsIn K C).isSome && (eqO (findIn K (.ref C) "__getattribute__") (some (some (.builtin "BaseException.__getattribute__"))) && (eqO (findIn K (.ref C) "__getattr__") (some none) && (decide (subIn K (.ref C) (.type "BaseException") = some true) && (hasDictIn K C &&
  (eqO (findIn K (.ref C) "__class__") (some (some (.builtin "object.__class__"))) && decide (mroIn K C (.type "object") = some true))))))
/-- own classes whose instances are asked by isinstance -/
def isiB (K : Frag) (C : Addr) : Bool := eqO (findIn K (.ref C) "__class__") (some (some (.builtin "object.__class__"))) && decide (mroIn K C (.type "object") = some true)
structure Ask where
  n : Nat
  fa : List He.Fa
  fn : List He.DefD
  sup : List SupQ
  file : Str
  ex : Frag → Bool
  fna : List He5.DefA := []
abbrev Al : Type := Bool × List He.FnW × List SupV
/-- what is looked at: the module's names, the classes' own names, the code and the cells of defs -/
def refsN (o : Obj) : List Addr := match o.data with
  | .dict es _ => es.toList.filterMap fun e => match e.val with
    | .ref a => some a
    | _ => none
  | _ => []
def refsC (o : Obj) : List Addr := match o.data with
  | .cls cd => [cd.ns]
  | .func fd => He.refV fd.code ++ (He.refV fd.defaults ++ (He.refV fd.kwdefaults ++ fd.closure.map (·.2)))
  | _ => []
/-- the defs that a classmethod's or a property's record holds -/
def refsR (o : Obj) : List Addr := match o.cls, o.data with
  | .type n, .fields vs => if n == "classmethod" || n == "property" then vs.toList.flatMap He.refV else []
  | _, _ => []
def stepA (f : Obj → List Addr) (g : Addr → Option Obj) (as : List Addr) : List Addr := as.flatMap fun a => match g a with
  | some o => f o
  | none => []
def asN (g : Addr → Option Obj) : List Addr := stepA refsN g [mainGlobals]
def asC (g : Addr → Option Obj) : List Addr := stepA refsC g (asN g)
def asM (g : Addr → Option Obj) : List Addr := stepA refsN g (asC g)
def asP (g : Addr → Option Obj) : List Addr := stepA refsR g (asM g)
def refsT (o : Obj) : List Addr := match o.data with
  | .seq its _ => its.toList.flatMap He.refV
  | _ => []
def asAll (g : Addr → Option Obj) : List Addr := asN g ++ (asC g ++ (asM g ++ (stepA refsC g (asM g) ++ (asP g ++ (stepA refsC g (asP g) ++ (stepA refsT g (stepA refsC g (asM g)) ++ [cStatics, mainGlobals]))))))
def kOf (n : Nat) (g : Addr → Option Obj) : Frag := He.frG g (asAll g)
def obsK (q : Ask) (K : Frag) : Al := ((q.fa.all fun f => f.ok K) && ((q.fn.all fun d => d.ok K) && ((q.sup.all fun d => supB K q.file d) && ((q.fna.all fun d => d.ok K) && q.ex K))), q.fn.map (fun d => He.fnW K d.at_) ++ q.fna.map (fun d => He5.fnA K (d.at_ K)), q.sup.map fun d => supV K d)
def valA (q : Ask) : Al := (true, q.fn.map He.DefD.val ++ q.fna.map He5.DefA.val, q.sup.map SupQ.val)
def obsA (q : Ask) (g : Addr → Option Obj) : Al := obsK q (kOf q.n g)
def hook (q : Ask) : PySem.W.Hook where
  α := Al
  obs := fun s => obsA q s.heap.get?
  val := fun _ => valA q
  says := fun _ h => ∃ K : Frag, K.In h ∧ obsK q K = valA q
  of := fun _ _ e => ⟨_, He.frG_in, e⟩
  keeps := fun _ _ _ ⟨K, hK, c⟩ k => ⟨K, PySem.W.Frag.In.keeps hK k, c⟩
theorem obs_eq (q : Ask) (s : PySem.W.SharedT) : obsA q (HandSHeadRun.getT s) = (hook q).obs s.abs := bxU (by simp (disch := with_unfolding_all
  have e : HandSHeadRun.getT s = s.abs.heap.get? := funext fun a => HandSHeadRun.getT_eq s a
  rw [e] <;> rfl) only [bxI])
end DH
namespace K05
open PySem L2 DL
def top (i : Nat) : Stmt := PySem.Challenge.pw_bindspan_k05_captures_refuse.main.body.getD i (.Pass ⟨0, 0, 0, 0⟩)
abbrev s_is_word : Stmt := top 12
abbrev s_is_identifier : Stmt := top 13
abbrev s_is_pair : Stmt := top 17
abbrev s_in_order : Stmt := top 18
abbrev s_Captures_init : Stmt := inClass (top 20) 0
abbrev s_Captures_of : Stmt := inClass (top 20) 1
abbrev s_pairs_of : Stmt := top 21
abbrev s_shared_pairs : Stmt := top 22
abbrev s_missing_pairs : Stmt := top 23
abbrev s_Captures_or : Stmt := inClass (top 20) 9
abbrev s_Captures_ror : Stmt := inClass (top 20) 10
abbrev s_Captures_and : Stmt := inClass (top 20) 11
abbrev s_Captures_rand : Stmt := inClass (top 20) 12
abbrev s_Captures_sub : Stmt := inClass (top 20) 13
abbrev s_Captures_rsub : Stmt := inClass (top 20) 14
abbrev s_Captures_xor : Stmt := inClass (top 20) 15
abbrev s_Captures_rxor : Stmt := inClass (top 20) 16
abbrev s_law_tape : Stmt := top 25
abbrev s_law_draw : Stmt := top 26
abbrev s_law_kept : Stmt := top 27
abbrev s_law_signs : Stmt := top 28
abbrev s_law_spelled : Stmt := top 29
abbrev s_law_ident : Stmt := top 30
abbrev s_law_number : Stmt := top 31
abbrev s_law_ascending : Stmt := top 33
abbrev s_law_bad_number : Stmt := top 34
abbrev s_law_bad_ident : Stmt := top 35
abbrev s_law_item : Stmt := top 36
abbrev s_law_family : Stmt := top 37
abbrev s_law_joined : Stmt := top 38
abbrev s_law_result : Stmt := top 39
abbrev s_law : Stmt := top 40
structure Ad where
  C_Captures : Addr
  C_BadPair : Addr
  C_BadCaptures : Addr
  C_BindspanError : Addr
  C_NoKeeping : Addr
  C_TooMany : Addr
  f_is_word : Addr
  d_is_word : FuncData
  f_is_identifier : Addr
  d_is_identifier : FuncData
  f_is_pair : Addr
  d_is_pair : FuncData
  f_in_order : Addr
  d_in_order : FuncData
  f_Captures_init : Addr
  d_Captures_init : FuncData
  f_Captures_of : Addr
  d_Captures_of : FuncData
  f_pairs_of : Addr
  d_pairs_of : FuncData
  f_shared_pairs : Addr
  d_shared_pairs : FuncData
  f_missing_pairs : Addr
  d_missing_pairs : FuncData
  f_Captures_or : Addr
  d_Captures_or : FuncData
  f_Captures_ror : Addr
  d_Captures_ror : FuncData
  f_Captures_and : Addr
  d_Captures_and : FuncData
  f_Captures_rand : Addr
  d_Captures_rand : FuncData
  f_Captures_sub : Addr
  d_Captures_sub : FuncData
  f_Captures_rsub : Addr
  d_Captures_rsub : FuncData
  f_Captures_xor : Addr
  d_Captures_xor : FuncData
  f_Captures_rxor : Addr
  d_Captures_rxor : FuncData
  f_law_tape : Addr
  d_law_tape : FuncData
  f_law_draw : Addr
  d_law_draw : FuncData
  f_law_kept : Addr
  d_law_kept : FuncData
  f_law_signs : Addr
  d_law_signs : FuncData
  f_law_spelled : Addr
  d_law_spelled : FuncData
  f_law_ident : Addr
  d_law_ident : FuncData
  f_law_number : Addr
  d_law_number : FuncData
  f_law_ascending : Addr
  d_law_ascending : FuncData
  f_law_bad_number : Addr
  d_law_bad_number : FuncData
  f_law_bad_ident : Addr
  d_law_bad_ident : FuncData
  f_law_item : Addr
  d_law_item : FuncData
  f_law_family : Addr
  d_law_family : FuncData
  f_law_joined : Addr
  d_law_joined : FuncData
  f_law_result : Addr
  d_law_result : FuncData
  f_law : Addr
  d_law : FuncData
  t_LETTERS : Tok
  t_DIGITS : Tok
  t_LONGEST : Tok
  p_KEPT : Addr
  t_MOST_NUMBER : Tok
  e_Captures : Addr
  p_Captures_of : Addr
def nf0 (a : Ad) : Addr → Nat := fun c => if c = a.C_Captures then 1 else 0
def keptV : List V := [.str "name", .str "flag", .str "slot", .str "func", .str "open", .str "own", .str "look", .str "bind", .str "call", .str "keep", .str "take", .str "shift", .str "run", .str "drop", .str "apart", .str "when", .str "held", .str "fail", .str "guard", .str "else", .str "after", .str "end", .str "with", .str "of", .str "on", .str "off"]
theorem sc_is_word : FnScope ["value", "sign"] ["value"] (defScope s_is_word) := ⟨rfl, rfl, rfl, by decide +kernel, rfl, by decide +kernel, by decide +kernel⟩
theorem sc_is_identifier : FnScope ["value"] ["value"] (defScope s_is_identifier) := ⟨rfl, rfl, rfl, by decide +kernel, rfl, by decide +kernel, by decide +kernel⟩
theorem sc_is_pair : FnScope ["value", "number", "ident"] ["value"] (defScope s_is_pair) := ⟨rfl, rfl, rfl, by decide +kernel, rfl, by decide +kernel, by decide +kernel⟩
theorem sc_in_order : FnScope ["pairs", "pair"] ["pairs"] (defScope s_in_order) := ⟨rfl, rfl, rfl, by decide +kernel, rfl, by decide +kernel, by decide +kernel⟩
theorem sc_Captures_init : FnScope ["self", "pairs"] ["self", "pairs"] (defScope s_Captures_init) := ⟨rfl, rfl, rfl, by decide +kernel, rfl, by decide +kernel, by decide +kernel⟩
theorem sc_Captures_of : FnScope ["cls", "pairs"] ["cls", "pairs"] (defScope s_Captures_of) := ⟨rfl, rfl, rfl, by decide +kernel, rfl, by decide +kernel, by decide +kernel⟩
theorem sc_pairs_of : FnScope ["other"] ["other"] (defScope s_pairs_of) := ⟨rfl, rfl, rfl, by decide +kernel, rfl, by decide +kernel, by decide +kernel⟩
theorem sc_shared_pairs : FnScope ["first", "second", "pair"] ["first", "second"] (defScope s_shared_pairs) := ⟨rfl, rfl, rfl, by decide +kernel, rfl, by decide +kernel, by decide +kernel⟩
theorem sc_missing_pairs : FnScope ["first", "second", "pair"] ["first", "second"] (defScope s_missing_pairs) := ⟨rfl, rfl, rfl, by decide +kernel, rfl, by decide +kernel, by decide +kernel⟩
theorem sc_Captures_or : FnScope ["self", "other"] ["self", "other"] (defScope s_Captures_or) := ⟨rfl, rfl, rfl, by decide +kernel, rfl, by decide +kernel, by decide +kernel⟩
theorem sc_Captures_ror : FnScope ["self", "other"] ["self", "other"] (defScope s_Captures_ror) := ⟨rfl, rfl, rfl, by decide +kernel, rfl, by decide +kernel, by decide +kernel⟩
theorem sc_Captures_and : FnScope ["self", "other"] ["self", "other"] (defScope s_Captures_and) := ⟨rfl, rfl, rfl, by decide +kernel, rfl, by decide +kernel, by decide +kernel⟩
theorem sc_Captures_rand : FnScope ["self", "other"] ["self", "other"] (defScope s_Captures_rand) := ⟨rfl, rfl, rfl, by decide +kernel, rfl, by decide +kernel, by decide +kernel⟩
theorem sc_Captures_sub : FnScope ["self", "other"] ["self", "other"] (defScope s_Captures_sub) := ⟨rfl, rfl, rfl, by decide +kernel, rfl, by decide +kernel, by decide +kernel⟩
theorem sc_Captures_rsub : FnScope ["self", "other"] ["self", "other"] (defScope s_Captures_rsub) := ⟨rfl, rfl, rfl, by decide +kernel, rfl, by decide +kernel, by decide +kernel⟩
theorem sc_Captures_xor : FnScope ["self", "other", "others"] ["self", "other"] (defScope s_Captures_xor) := ⟨rfl, rfl, rfl, by decide +kernel, rfl, by decide +kernel, by decide +kernel⟩
theorem sc_Captures_rxor : FnScope ["self", "other", "others"] ["self", "other"] (defScope s_Captures_rxor) := ⟨rfl, rfl, rfl, by decide +kernel, rfl, by decide +kernel, by decide +kernel⟩
theorem sc_law_tape : FnScope ["_law_script", "_law_k", "_law_cell"] ["_law_script", "_law_k"] (defScope s_law_tape) := ⟨rfl, rfl, rfl, by decide +kernel, rfl, by decide +kernel, by decide +kernel⟩
theorem sc_law_draw : FnScope ["_law_tape_here", "_law_many", "_law_digit", "_law_prime", "_law_base", "_law_mixed"] ["_law_tape_here", "_law_many"] (defScope s_law_draw) := ⟨rfl, rfl, rfl, by decide +kernel, rfl, by decide +kernel, by decide +kernel⟩
theorem sc_law_kept : FnScope ["_law_text"] [] (defScope s_law_kept) := ⟨rfl, rfl, rfl, by decide +kernel, rfl, by decide +kernel, by decide +kernel⟩
theorem sc_law_signs : FnScope [] [] (defScope s_law_signs) := ⟨rfl, rfl, rfl, by decide +kernel, rfl, by decide +kernel, by decide +kernel⟩
theorem sc_law_spelled : FnScope ["_law_tape_here", "_law_used", "_law_shape", "_law_size", "_law_word", "_law_place"] ["_law_tape_here", "_law_used"] (defScope s_law_spelled) := ⟨rfl, rfl, rfl, by decide +kernel, rfl, by decide +kernel, by decide +kernel⟩
theorem sc_law_ident : FnScope ["_law_tape_here", "_law_used", "_law_word", "_law_number_here"] ["_law_tape_here", "_law_used"] (defScope s_law_ident) := ⟨rfl, rfl, rfl, by decide +kernel, rfl, by decide +kernel, by decide +kernel⟩
theorem sc_law_number : FnScope ["_law_tape_here"] ["_law_tape_here"] (defScope s_law_number) := ⟨rfl, rfl, rfl, by decide +kernel, rfl, by decide +kernel, by decide +kernel⟩
theorem sc_law_ascending : FnScope ["_law_pairs_here", "_law_found", "_law_pair"] ["_law_pairs_here"] (defScope s_law_ascending) := ⟨rfl, rfl, rfl, by decide +kernel, rfl, by decide +kernel, by decide +kernel⟩
theorem sc_law_bad_number : FnScope ["_law_tape_here", "_law_great"] ["_law_tape_here"] (defScope s_law_bad_number) := ⟨rfl, rfl, rfl, by decide +kernel, rfl, by decide +kernel, by decide +kernel⟩
theorem sc_law_bad_ident : FnScope ["_law_tape_here", "_law_word", "_law_place", "_law_sign", "_law_broken", "_law_digit", "_law_long", "_law_kept_here"] ["_law_tape_here"] (defScope s_law_bad_ident) := ⟨rfl, rfl, rfl, by decide +kernel, rfl, by decide +kernel, by decide +kernel⟩
theorem sc_law_item : FnScope ["_law_tape_here", "_law_shape", "_law_good"] ["_law_tape_here"] (defScope s_law_item) := ⟨rfl, rfl, rfl, by decide +kernel, rfl, by decide +kernel, by decide +kernel⟩
theorem sc_law_family : FnScope ["_law_e", "_law_above"] ["_law_e"] (defScope s_law_family) := ⟨rfl, rfl, rfl, by decide +kernel, rfl, by decide +kernel, by decide +kernel⟩
theorem sc_law_joined : FnScope ["_law_made", "_law_way", "_law_items"] ["_law_made", "_law_way", "_law_items"] (defScope s_law_joined) := ⟨rfl, rfl, rfl, by decide +kernel, rfl, by decide +kernel, by decide +kernel⟩
theorem sc_law_result : FnScope ["_law_made", "_law_way", "_law_items", "_law_found", "_law_e"] ["_law_made", "_law_way", "_law_items"] (defScope s_law_result) := ⟨rfl, rfl, rfl, by decide +kernel, rfl, by decide +kernel, by decide +kernel⟩
theorem sc_law : FnScope ["_law_script", "_law_items", "_law_k", "_law_row", "_law_item_here", "_law_bad", "_law_made", "_law_way", "_law_handed", "_law_found", "_law_last"] ["_law_script"] (defScope s_law) := ⟨rfl, rfl, rfl, by decide +kernel, rfl, by decide +kernel, by decide +kernel⟩
end K05
namespace DH
open PySem
section
open PySem.W
theorem looks_of {p : Program} (w1 : (sreFenced p.main && ((moduleNames p.main.body).isEmpty || lookedIntoSs (moduleNames p.main.body) p.main.body)) = true) (w2 : namesResolve p = true) (w3 : (p.boundNames.all fun n => !worldNames.contains n) = true)
    (wa : (importedModules p.main.body).all cThrough.contains = true) (wv : readsOut p p.main.body "vars" = false) (wd : readsOut p p.main.body "dir" = false) (wl : readsOut p p.main.body "locals" = false)
    (w4 : noRoadLSs { strict := false, foot := none, bare := [] } p.main.body = true) (w5 : namesMeet p p.main.body (fun _ n => attrL n) = true) : looksOpen p = true := bxU (by simp (disch := with_unfolding_all
  have eb : (["vars", "dir", "locals"] : List PySem.Str).filter (readsOut p p.main.body) = [] := by
    rw [List.filter_cons_of_neg (by rw [wv]; decide), List.filter_cons_of_neg (by rw [wd]; decide), List.filter_cons_of_neg (by rw [wl]; decide)]
    rfl
  unfold looksOpen
  rw [eb, wa, w1, w2, w3, w5]
  show ((true && noRoadLSs { strict := false, foot := none, bare := [] } p.main.body) && true) = true
  rw [w4]
  rfl) only [bxI])
end
end DH
namespace DH
open PySem L2
open PySem.W (Frag findIn subIn kitOne selfFirst isFn)
/-- an operator nm of the class x, own methods m and r (reflected); list and tuple know none -/
def opsB (K : Frag) (x : Str) (nm : String) (m r : Str) : Bool :=
  selfFirst K (He.ga K x) && (eqO (findIn K (.ref (He.ga K x)) (dunder nm)) (some (some (.ref (He.ma K (He.ga K x) m)))) && (isFn K (.ref (He.ma K (He.ga K x) m)) && (eqO (findIn K (.ref (He.ga K x)) (dunderR nm)) (some (some (.ref (He.ma K (He.ga K x) r)))) && (isFn K (.ref (He.ma K (He.ga K x) r)) &&
  (eqO (findIn K (.type "list") (dunder nm)) (some none) && (eqO (findIn K (.type "list") (dunderR nm)) (some none) && (decide (subIn K (.type "list") (.ref (He.ga K x)) = some false) && (eqO (findIn K (.type "tuple") (dunder nm)) (some none) && (eqO (findIn K (.type "tuple") (dunderR nm)) (some none) && decide (subIn K (.type "tuple") (.ref (He.ga K x)) = some false))))))))))
/-- a classmethod m of the class x; how the class is read -/
def cmB (K : Frag) (x m : Str) : Bool := He5.wrapB K (He.ga K x) "classmethod" "classmethod.__get__" m && PySem.W.fnIn K (He5.wf K (He.ga K x) "classmethod" m)
def crB (K : Frag) (x : Str) : Bool := PySem.W.readsIn K (He.ga K x) (.type "type") && eqO (PySem.W.specialIn K (.ref (He.ga K x)) "__getattribute__") (some (some (.builtin "type.__getattribute__")))
def kitB0 (K : Frag) (t : String) (x : Str) : Bool := decide (kitOne K (.type t) (.ref (He.ga K x)) = some false)
end DH
namespace K05
open PySem L2 DL
def q_BadPair : DH.SupQ := ⟨"BadPair", inClass (top 4) 0, ["pair"]⟩
def df_is_word : He.DefD := ⟨("is_word", none), "is_word", "is_word", defArgs s_is_word, defBody s_is_word, defScope s_is_word, [], []⟩
def df_is_identifier : He.DefD := ⟨("is_identifier", none), "is_identifier", "is_identifier", defArgs s_is_identifier, defBody s_is_identifier, defScope s_is_identifier, [], []⟩
def df_is_pair : He.DefD := ⟨("is_pair", none), "is_pair", "is_pair", defArgs s_is_pair, defBody s_is_pair, defScope s_is_pair, [], []⟩
def df_in_order : He.DefD := ⟨("in_order", none), "in_order", "in_order", defArgs s_in_order, defBody s_in_order, defScope s_in_order, [], []⟩
def df_Captures_init : He.DefD := ⟨("Captures", some "__init__"), "__init__", "Captures.__init__", defArgs s_Captures_init, defBody s_Captures_init, defScope s_Captures_init, [.adr (He.dflAt ("Captures", some "__init__") 0)], []⟩
def df_Captures_of : He5.DefA := ⟨fun K => (He5.wf K (He.ga K "Captures") "classmethod" "of"), "of", "Captures.of", defArgs s_Captures_of, defBody s_Captures_of, defScope s_Captures_of, [], []⟩
def df_pairs_of : He.DefD := ⟨("pairs_of", none), "pairs_of", "pairs_of", defArgs s_pairs_of, defBody s_pairs_of, defScope s_pairs_of, [], []⟩
def df_shared_pairs : He.DefD := ⟨("shared_pairs", none), "shared_pairs", "shared_pairs", defArgs s_shared_pairs, defBody s_shared_pairs, defScope s_shared_pairs, [], []⟩
def df_missing_pairs : He.DefD := ⟨("missing_pairs", none), "missing_pairs", "missing_pairs", defArgs s_missing_pairs, defBody s_missing_pairs, defScope s_missing_pairs, [], []⟩
def df_Captures_or : He.DefD := ⟨("Captures", some "__or__"), "__or__", "Captures.__or__", defArgs s_Captures_or, defBody s_Captures_or, defScope s_Captures_or, [], []⟩
def df_Captures_ror : He.DefD := ⟨("Captures", some "__ror__"), "__ror__", "Captures.__ror__", defArgs s_Captures_ror, defBody s_Captures_ror, defScope s_Captures_ror, [], []⟩
def df_Captures_and : He.DefD := ⟨("Captures", some "__and__"), "__and__", "Captures.__and__", defArgs s_Captures_and, defBody s_Captures_and, defScope s_Captures_and, [], []⟩
def df_Captures_rand : He.DefD := ⟨("Captures", some "__rand__"), "__rand__", "Captures.__rand__", defArgs s_Captures_rand, defBody s_Captures_rand, defScope s_Captures_rand, [], []⟩
def df_Captures_sub : He.DefD := ⟨("Captures", some "__sub__"), "__sub__", "Captures.__sub__", defArgs s_Captures_sub, defBody s_Captures_sub, defScope s_Captures_sub, [], []⟩
def df_Captures_rsub : He.DefD := ⟨("Captures", some "__rsub__"), "__rsub__", "Captures.__rsub__", defArgs s_Captures_rsub, defBody s_Captures_rsub, defScope s_Captures_rsub, [], []⟩
def df_Captures_xor : He.DefD := ⟨("Captures", some "__xor__"), "__xor__", "Captures.__xor__", defArgs s_Captures_xor, defBody s_Captures_xor, defScope s_Captures_xor, [], []⟩
def df_Captures_rxor : He.DefD := ⟨("Captures", some "__rxor__"), "__rxor__", "Captures.__rxor__", defArgs s_Captures_rxor, defBody s_Captures_rxor, defScope s_Captures_rxor, [], []⟩
def df_law_tape : He.DefD := ⟨("_law_tape", none), "_law_tape", "_law_tape", defArgs s_law_tape, defBody s_law_tape, defScope s_law_tape, [], []⟩
def df_law_draw : He.DefD := ⟨("_law_draw", none), "_law_draw", "_law_draw", defArgs s_law_draw, defBody s_law_draw, defScope s_law_draw, [], []⟩
def df_law_kept : He.DefD := ⟨("_law_kept", none), "_law_kept", "_law_kept", defArgs s_law_kept, defBody s_law_kept, defScope s_law_kept, [], []⟩
def df_law_signs : He.DefD := ⟨("_law_signs", none), "_law_signs", "_law_signs", defArgs s_law_signs, defBody s_law_signs, defScope s_law_signs, [], []⟩
def df_law_spelled : He.DefD := ⟨("_law_spelled", none), "_law_spelled", "_law_spelled", defArgs s_law_spelled, defBody s_law_spelled, defScope s_law_spelled, [], []⟩
def df_law_ident : He.DefD := ⟨("_law_ident", none), "_law_ident", "_law_ident", defArgs s_law_ident, defBody s_law_ident, defScope s_law_ident, [], []⟩
def df_law_number : He.DefD := ⟨("_law_number", none), "_law_number", "_law_number", defArgs s_law_number, defBody s_law_number, defScope s_law_number, [], []⟩
def df_law_ascending : He.DefD := ⟨("_law_ascending", none), "_law_ascending", "_law_ascending", defArgs s_law_ascending, defBody s_law_ascending, defScope s_law_ascending, [], []⟩
def df_law_bad_number : He.DefD := ⟨("_law_bad_number", none), "_law_bad_number", "_law_bad_number", defArgs s_law_bad_number, defBody s_law_bad_number, defScope s_law_bad_number, [], []⟩
def df_law_bad_ident : He.DefD := ⟨("_law_bad_ident", none), "_law_bad_ident", "_law_bad_ident", defArgs s_law_bad_ident, defBody s_law_bad_ident, defScope s_law_bad_ident, [], []⟩
def df_law_item : He.DefD := ⟨("_law_item", none), "_law_item", "_law_item", defArgs s_law_item, defBody s_law_item, defScope s_law_item, [], []⟩
def df_law_family : He.DefD := ⟨("_law_family", none), "_law_family", "_law_family", defArgs s_law_family, defBody s_law_family, defScope s_law_family, [], []⟩
def df_law_joined : He.DefD := ⟨("_law_joined", none), "_law_joined", "_law_joined", defArgs s_law_joined, defBody s_law_joined, defScope s_law_joined, [], []⟩
def df_law_result : He.DefD := ⟨("_law_result", none), "_law_result", "_law_result", defArgs s_law_result, defBody s_law_result, defScope s_law_result, [], []⟩
def df_law : He.DefD := ⟨("law", none), "law", "law", defArgs s_law, defBody s_law, defScope s_law, [], []⟩
def fas0 : List He.Fa := [.glo "is_word", .glo "is_identifier", .glo "is_pair", .glo "in_order", .glo "pairs_of", .glo "shared_pairs", .glo "missing_pairs", .glo "_law_tape", .glo "_law_draw", .glo "_law_kept", .glo "_law_signs", .glo "_law_spelled", .glo "_law_ident", .glo "_law_number", .glo "_law_ascending"]
def fas1 : List He.Fa := [.glo "_law_bad_number", .glo "_law_bad_ident", .glo "_law_item", .glo "_law_family", .glo "_law_joined", .glo "_law_result", .glo "law", .glo "Captures", .glo "BadPair", .glo "BadCaptures", .glo "BindspanError", .glo "NoKeeping", .glo "TooMany", .free "set", .free "min"]
def fas2 : List He.Fa := [.free "max", .free "super", .free "ValueError", .free "len", .free "int", .free "str", .free "all", .free "tuple", .free "list", .free "sorted", .free "isinstance", .free "range", .free "bool", .cls "Captures", .noat "Captures" "pairs"]
def fas3 : List He.Fa := [.mkr "Captures", .meth "Captures" "__or__", .meth "Captures" "__ror__", .meth "Captures" "__and__", .meth "Captures" "__rand__", .meth "Captures" "__sub__", .meth "Captures" "__rsub__", .meth "Captures" "__xor__", .meth "Captures" "__rxor__", .str "LETTERS" "abcdefghijklmnopqrstuvwxyz", .str "DIGITS" "0123456789", .int "LONGEST" 12, .glo "KEPT", .int "MOST_NUMBER" (10 ^ 60)]
def fas : List He.Fa := fas0 ++ fas1 ++ fas2 ++ fas3
def fns0 : List He.DefD := [df_is_word, df_is_identifier, df_is_pair, df_in_order, df_Captures_init, df_pairs_of, df_shared_pairs, df_missing_pairs, df_Captures_or, df_Captures_ror, df_Captures_and, df_Captures_rand, df_Captures_sub, df_Captures_rsub, df_Captures_xor]
def fns1 : List He.DefD := [df_Captures_rxor, df_law_tape, df_law_draw, df_law_kept, df_law_signs, df_law_spelled, df_law_ident, df_law_number, df_law_ascending, df_law_bad_number, df_law_bad_ident, df_law_item, df_law_family, df_law_joined, df_law_result]
def fns2 : List He.DefD := [df_law]
def fns : List He.DefD := fns0 ++ fns1 ++ fns2
def fnas : List He5.DefA := [df_Captures_of]
def sups0 : List DH.SupQ := [q_BadPair]
def sups : List DH.SupQ := sups0
def efB (K : PySem.W.Frag) : Bool := DH.exiB K (He.ga K "BadPair") && (decide (PySem.W.exmOne K (.ref (He.ga K "BadPair")) (.ref (He.ga K "BadPair")) = some true) && (decide (PySem.W.kitOne K (.ref (He.ga K "BadPair")) (.ref (He.ga K "BadCaptures")) = some true) && (decide (PySem.W.kitOne K (.ref (He.ga K "BadPair")) (.ref (He.ga K "BindspanError")) = some true) && (decide (PySem.W.kitOne K (.ref (He.ga K "BadPair")) (.type "ValueError") = some true) && (decide (PySem.W.kitOne K (.ref (He.ga K "BadPair")) (.ref (He.ga K "NoKeeping")) = some false) && (decide (PySem.W.kitOne K (.ref (He.ga K "BadPair")) (.ref (He.ga K "TooMany")) = some false)))))))
def exO (K : PySem.W.Frag) : Bool := DH.opsB K "Captures" "or" "__or__" "__ror__" && (DH.opsB K "Captures" "and" "__and__" "__rand__" && (DH.opsB K "Captures" "sub" "__sub__" "__rsub__" && (DH.opsB K "Captures" "xor" "__xor__" "__rxor__" && (DH.kitB0 K "list" "Captures" && (DH.kitB0 K "tuple" "Captures")))))
def exC (K : PySem.W.Frag) : Bool := efB K && exO K
def tv_KEPT : List He.Dv := [.str "name", .str "flag", .str "slot", .str "func", .str "open", .str "own", .str "look", .str "bind", .str "call", .str "keep", .str "take", .str "shift", .str "run", .str "drop", .str "apart", .str "when", .str "held", .str "fail", .str "guard", .str "else", .str "after", .str "end", .str "with", .str "of", .str "on", .str "off"]
def exs (K : PySem.W.Frag) : Bool := DH.isiB K (He.ga K "Captures") && (DH.cmB K "Captures" "of" && (DH.crB K "Captures" && (He.tupB K "KEPT" tv_KEPT && (exC K))))
def ask : DH.Ask := { n := 0, fa := fas, fn := fns, sup := sups, file := PySem.Challenge.pw_bindspan_k05_captures_refuse.main.file, ex := exs, fna := fnas }
abbrev R : PySem.W.OpenRow := PySem.W.OpenLaw.row PySem.Challenge.rw_bindspan_k05_captures_refuse
def names0 : List PySem.Str := ["_wall", "__name__", "BindspanError", "BadCaptures", "BadPair", "NoKeeping", "TooMany", "LETTERS", "DIGITS", "LONGEST", "KEPT", "is_word", "is_identifier", "MOST_DIGITS", "MOST_NUMBER", "is_pair", "in_order", "read_pair", "Captures", "pairs_of"]
def names1 : List PySem.Str := ["shared_pairs", "missing_pairs", "_law_tape", "_law_draw", "_law_kept", "_law_signs", "_law_spelled", "_law_ident", "_law_number", "_law_pairs", "_law_ascending", "_law_bad_number", "_law_bad_ident", "_law_item", "_law_family", "_law_joined", "_law_result"]
def names : List PySem.Str := names0 ++ names1
theorem run (w : World) : HandSHeadRun.RunEq R (PySem.W.view R.prog [40]) (DH.hook ask) (fun s => DH.obsA ask (HandSHeadRun.getT s)) 20000 names w := by
  intro os
  kernel_rfl
section
open PySem.W
theorem ws1 : (sreFenced R.prog.main && ((moduleNames R.prog.main.body).isEmpty || lookedIntoSs (moduleNames R.prog.main.body) R.prog.main.body)) = true := by decide +kernel
theorem ws2 : namesResolve R.prog = true := by decide +kernel
theorem ws3 : (R.prog.boundNames.all fun n => !worldNames.contains n) = true := by decide +kernel
theorem wsA : (importedModules R.prog.main.body).all cThrough.contains = true := by decide +kernel
theorem wsr_vars : readsOut R.prog R.prog.main.body "vars" = false := by decide +kernel
theorem wsr_dir : readsOut R.prog R.prog.main.body "dir" = false := by decide +kernel
theorem wsr_locals : readsOut R.prog R.prog.main.body "locals" = false := by decide +kernel
theorem ws4 : noRoadLSs { strict := false, foot := none, bare := [] } R.prog.main.body = true := by decide +kernel
theorem ws5 : namesMeet R.prog R.prog.main.body (fun _ n => attrL n) = true := by decide +kernel
theorem ws : R.wellSaid = true := by
  unfold OpenRow.wellSaid OpenRow.partSaid
  rw [DH.looks_of ws1 ws2 ws3 wsA wsr_vars wsr_dir wsr_locals ws4 ws5]
  decide +kernel
end
theorem topK (hw : R.promised) (hc : PySem.W.WalkO (PySem.W.view R.prog [40]) names (PySem.W.XL (PySem.W.view R.prog [40]) []) (DH.hook ask).says R.toRowW (HandSHeadRun.topDef R.prog 40) [] (fun f vs => PySem.call f vs)) : R.Holds :=
  HandSHeadRun.head_any (r := R) (q := (PySem.W.view R.prog [40])) (H := DH.hook ask) (ob := fun s => DH.obsA ask (HandSHeadRun.getT s)) (M := 20000) (loose := names) (d := HandSHeadRun.topDef R.prog 40) (kwd := []) (DH.obs_eq ask)
    (by kernel_rfl) (fun s => by kernel_rfl) run (by kernel_rfl) (by kernel_rfl) (by kernel_rfl) (by rfl) ws (by decide +kernel) ⟨rfl, rfl, rfl, rfl, rfl, by decide +kernel⟩ hw hc
theorem topN : (HandSHeadRun.topDef R.prog 40).name = ("law" : PySem.Str) := by kernel_rfl
end K05
namespace DL
open PySem L2
/-- of a program: how many fields an own class has, which name a def at a place has -/
structure NFs where
  n : Addr → Nat
  nm : Nat → Nat → Str := fun _ _ => Str.empty
  tbs : List Addr := []
instance : CoeFun NFs (fun _ => Addr → Nat) := ⟨NFs.n⟩
/-- neither a table of code objects nor anything of another kind -/
def Pl (u : HO) : Prop := (∀ ps, u ≠ .tbl ps) ∧ ∀ f, u ≠ .ext f
/-- a def within a def: its words, the names that it captures -/
structure NFd where
  name : Str
  qual : Str
  params : Arguments
  body : List Stmt
  scope : Scope
  fr : List Str
  /-- the body of a lambda -/
  ex : Option Expr
def NFd.nf (W : NFd) (cl : List (Str × Addr)) (c : Addr) : NdefX.NF := ⟨W.name, W.qual, W.params, W.body, W.scope, cl, c⟩
def NFd.fd (W : NFd) (cl : List (Str × Addr)) (c : Addr) (doc pm ctv : Value) : FuncData := match W.ex with
  | none => (W.nf cl c).fd doc pm ctv
  | some e => PySem.W.kla_fn W.name W.qual W.params e W.scope cl pm (.ref c) ctv
/-- the object at f is a function made of W -/
def FnOW (f : Addr) (W : NFd) (cl : List (Str × Addr)) (c : Addr) : HO := .ext fun h => ∃ (od : Option Addr) (sl : Array (Option Value)) (doc pm ctv : Value), h.get? f = some (⟨.type "function", od, .func (W.fd cl c doc pm ctv), sl⟩ : Obj)
/-- deep data; `fn0 W cl`: a function made of W, its cells; `fn W ds`: one whose cells are lent, what they hold; `cls a`: an object known by its address alone -/
inductive D where
  | non | bl (b : Bool) | int (i : Int) | str (s : Str) | ty (n : String) | cls (a : Addr)
  | tup (xs : List D) | lst (xs : List D) | dct (kvs : List (Key × D)) | obj (C : Addr) (fs : List (Str × D)) | scr (ns : List Int) | exc (C : Addr) (fs : List (Str × D)) | fn0 (W : NFd) (cl : List (Str × Addr)) | fn (W : NFd) (ds : List D)
section
variable (K : PySem.W.Frag) (nf : NFs) (H : Hp)
/-- a list that is read and never written any more -/
def FzL (a : Addr) (xs : List V) : Prop := ∃ o, H a = some (.frz o (.lst xs))
/-- the law's script: a list that nobody writes, or one of the module -/
def ScrL (a : Addr) (xs : List V) : Prop := FzL H a xs ∨ ∃ (o : Obj) (its : Array Value) (n : Nat), K.lookup a = some o ∧ o.cls = .type "list" ∧ o.dict = none ∧ o.data = .seq its n ∧ its.size ≤ sizeLine ∧ Vals xs its.toList
/-- an error held as a value: its object, its fields -/
def ExcV (a C : Addr) (oe : Obj) (fs : List (Str × V)) : Prop := H a = some (.frz oe (.ext fun _ => True)) ∧ oe.cls = .ref C ∧ (∃ vs, oe.data = .fields vs) ∧ ((oe.dict = none ∧ fs = []) ∨ ∃ dx od, oe.dict = some dx ∧ H dx = some (.frz od (.xd fs)))
/-- the function object at f, its code object -/
def FnV (f : Addr) (W : NFd) (cl : List (Str × Addr)) : Prop := ∃ c, H f = some (FnOW f W cl c) ∧ H c = some (LamX.CodeO c W.qual)
/-- cells that are lent: known objects -/
structure CellsV (cl : List (Str × Addr)) (fr : List Str) (vs : List V) : Prop where
  len : vs.length = fr.length
  all : ∀ y c, cl.lookup y = some c → ∃ o v, H c = some (.frz o (.ext fun _ => True)) ∧ o.data = .cell v
  inj : ∀ x y c, cl.lookup x = some c → cl.lookup y = some c → x = y
  has : ∀ (i : Nat) (y : Str) (v : V), fr[i]? = some y → vs[i]? = some v → ∃ c o u, cl.lookup y = some c ∧ H c = some (.frz o (.ext fun _ => True)) ∧ o.data = .cell (some u) ∧ RelV v u
mutual
inductive Rel : V → D → Prop
  | non : Rel .non .non
  | bl (b : Bool) : Rel (.bl b) (.bl b)
  | int (i : Int) : Rel (.int i) (.int i)
  | str (s : Str) : Rel (.str s) (.str s)
  | ty (n : String) : Rel (.ty n) (.ty n)
  | cls (a : Addr) : Rel (.ref a) (.cls a)
  | tup {a : Addr} {vs : List V} {ds : List D} : SqT K H a vs → Rels vs ds → Rel (.ref a) (.tup ds)
  | lst {a : Addr} {vs : List V} {ds : List D} : FzL H a vs → Rels vs ds → Rel (.ref a) (.lst ds)
  | dct {a : Addr} {o : Obj} {kvs : List (Key × V)} {kds : List (Key × D)} : H a = some (.frz o (.dK kvs)) → RelK kvs kds → Rel (.ref a) (.dct kds)
  | obj {a C dx : Addr} {fs : List (Str × V)} {fds : List (Str × D)} : H a = some (.ins C dx fs) → nf C ≠ 0 → fs.length = nf C → RelF fs fds → Rel (.ref a) (.obj C fds)
  | scr {a : Addr} {ns : List Int} : ScrL K H a (ns.map .int) → Rel (.ref a) (.scr ns)
  | exc {a C : Addr} {oe : Obj} {fs : List (Str × V)} {fds : List (Str × D)} : ExcV H a C oe fs → RelF fs fds → Rel (.ref a) (.exc C fds)
  | fn0 {f : Addr} {W : NFd} {cl : List (Str × Addr)} : FnV H f W cl → Rel (.ref f) (.fn0 W cl)
  | fn {f : Addr} {W : NFd} {cl : List (Str × Addr)} {vs : List V} {ds : List D} : FnV H f W cl → CellsV H cl W.fr vs → Rels vs ds → Rel (.ref f) (.fn W ds)
inductive Rels : List V → List D → Prop
  | nil : Rels [] []
  | cons {v : V} {vs : List V} {d : D} {ds : List D} : Rel v d → Rels vs ds → Rels (v :: vs) (d :: ds)
inductive RelK : List (Key × V) → List (Key × D) → Prop
  | nil : RelK [] []
  | cons {k : Key} {v : V} {vs : List (Key × V)} {d : D} {ds : List (Key × D)} : Rel v d → RelK vs ds → RelK ((k, v) :: vs) ((k, d) :: ds)
inductive RelF : List (Str × V) → List (Str × D) → Prop
  | nil : RelF [] []
  | cons {k : Str} {v : V} {vs : List (Str × V)} {d : D} {ds : List (Str × D)} : Rel v d → RelF vs ds → RelF ((k, v) :: vs) ((k, d) :: ds)
end
end
/-- never written any more -/
def Fzn (nf : NFs) : HO → Prop
  | .tup _ => True
  | .frz _ _ => True
  | .ins C _ fs => nf C ≠ 0 ∧ fs.length = nf C
  | .ext _ => True
  | _ => False
def Stp (nf : NFs) (H H' : Hp) : Prop := ∀ a u, H a = some u → Fzn nf u → H' a = some u
section
variable {K : PySem.W.Frag} {nf : NFs} {H H' H1 H2 : Hp}
theorem Stp.refl : Stp nf H H := fun _ _ h _ => h
theorem Stp.trans (a : Stp nf H H1) (b : Stp nf H1 H2) : Stp nf H H2 := fun x u h f => b x u (a x u h f) f
theorem FzL.mono {a : Addr} {xs : List V} (e : Stp nf H H') (h : FzL H a xs) : FzL H' a xs := bxU (by simp (disch := with_unfolding_all
  obtain ⟨o, h⟩ := h
  exact ⟨o, e _ _ h trivial⟩) only [bxI])
theorem FzL.rd {a : Addr} {xs : List V} (h : FzL H a xs) : Rd H a (.lst xs) := .inr h
theorem FzL.sq {a : Addr} {xs : List V} (h : FzL H a xs) : SqL K H a xs := .inl (.inr h)
theorem ScrL.mono {a : Addr} {xs : List V} (e : Stp nf H H') (h : ScrL K H a xs) : ScrL K H' a xs := h.imp (fun z => z.mono e) id
theorem ScrL.sq {a : Addr} {xs : List V} (h : ScrL K H a xs) : SqL K H a xs := bxU (by simp (disch := with_unfolding_all
  rcases h with h | h
  · exact h.sq
  · exact .inr h) only [bxI])
theorem ScrL.of {a : Addr} {xs : List V} (h : SqL K H a xs) (hO : ∀ b, H b = none ∨ ∃ o xs, H b = some (.frz o (.lst xs))) : ScrL K H a xs := bxU (by simp (disch := with_unfolding_all
  rcases h with (h | h) | h
  · rcases hO a with z | ⟨o, ys, z⟩
    · rw [h] at z; cases z
    · rw [h] at z; cases z
  · exact .inl h
  · exact .inr h) only [bxI])
theorem sqT_mono {a : Addr} {xs : List V} (e : Stp nf H H') (h : SqT K H a xs) : SqT K H' a xs := bxU (by simp (disch := with_unfolding_all
  rcases h with (h | ⟨o, h⟩) | h
  · exact .inl (.inl (e _ _ h trivial))
  · exact .inl (.inr ⟨o, e _ _ h trivial⟩)
  · exact .inr h) only [bxI])
theorem FnV.mono {f : Addr} {W : NFd} {cl : List (Str × Addr)} (e : Stp nf H H') (h : FnV H f W cl) : FnV H' f W cl := bxU (by simp (disch := with_unfolding_all
  obtain ⟨c, h1, h2⟩ := h
  exact ⟨c, e _ _ h1 trivial, e _ _ h2 trivial⟩) only [bxI])
theorem CellsV.mono {cl : List (Str × Addr)} {fr : List Str} {vs : List V} (e : Stp nf H H') (h : CellsV H cl fr vs) : CellsV H' cl fr vs := bxU (by simp (disch := with_unfolding_all
  exact ⟨h.len, fun y c z => by
    obtain ⟨o, v, h1, h2⟩ := h.all y c z
    exact ⟨o, v, e _ _ h1 trivial, h2⟩, h.inj, fun i y v h1 h2 => by
    obtain ⟨c, o, u, e1, e2, e3⟩ := h.has i y v h1 h2
    exact ⟨c, o, u, e1, e _ _ e2 trivial, e3⟩⟩) only [bxI])
theorem ExcV.mono {a C : Addr} {oe : Obj} {fs : List (Str × V)} (e : Stp nf H H') (h : ExcV H a C oe fs) : ExcV H' a C oe fs := bxU (by simp (disch := with_unfolding_all
  obtain ⟨h1, h2, h3, h4⟩ := h
  refine ⟨e _ _ h1 trivial, h2, h3, h4.imp id ?_⟩
  rintro ⟨dx, od, d1, d2⟩
  exact ⟨dx, od, d1, e _ _ d2 trivial⟩) only [bxI])
mutual
theorem Rel.mono (e : Stp nf H H') : ∀ {v : V} {d : D}, Rel K nf H v d → Rel K nf H' v d
  | _, _, .non => .non
  | _, _, .bl b => .bl b
  | _, _, .int i => .int i
  | _, _, .str s => .str s
  | _, _, .ty n => .ty n
  | _, _, .cls a => .cls a
  | _, _, .tup h r => .tup (sqT_mono e h) (Rels.mono e r)
  | _, _, .lst h r => .lst (h.mono e) (Rels.mono e r)
  | _, _, .dct h r => .dct (e _ _ h trivial) (RelK.mono e r)
  | _, _, .obj h n l r => .obj (e _ _ h ⟨n, l⟩) n l (RelF.mono e r)
  | _, _, .scr h => .scr (h.mono e)
  | _, _, .exc h r => .exc (h.mono e) (RelF.mono e r)
  | _, _, .fn0 h => .fn0 (h.mono e)
  | _, _, .fn h c r => .fn (h.mono e) (c.mono e) (Rels.mono e r)
theorem Rels.mono (e : Stp nf H H') : ∀ {vs : List V} {ds : List D}, Rels K nf H vs ds → Rels K nf H' vs ds
  | _, _, .nil => .nil
  | _, _, .cons h r => .cons (Rel.mono e h) (Rels.mono e r)
theorem RelK.mono (e : Stp nf H H') : ∀ {vs : List (Key × V)} {ds : List (Key × D)}, RelK K nf H vs ds → RelK K nf H' vs ds
  | _, _, .nil => .nil
  | _, _, .cons h r => .cons (Rel.mono e h) (RelK.mono e r)
theorem RelF.mono (e : Stp nf H H') : ∀ {vs : List (Str × V)} {ds : List (Str × D)}, RelF K nf H vs ds → RelF K nf H' vs ds
  | _, _, .nil => .nil
  | _, _, .cons h r => .cons (Rel.mono e h) (RelF.mono e r)
end
theorem Rels.length : ∀ {vs : List V} {ds : List D}, Rels K nf H vs ds → vs.length = ds.length
  | _, _, .nil => rfl
  | _, _, .cons _ r => by rw [List.length_cons, List.length_cons, Rels.length r]
theorem Rels.get : ∀ {vs : List V} {ds : List D} {i : Nat} {d : D}, Rels K nf H vs ds → ds[i]? = some d → ∃ v, vs[i]? = some v ∧ Rel K nf H v d
  | _, _, _, _, .nil, e => by simp at e
  | _, _, 0, _, .cons h _, e => by simp at e; subst e; exact ⟨_, rfl, h⟩
  | _, _, i + 1, d, .cons _ r, e => by
    obtain ⟨v, h1, h2⟩ := Rels.get (i := i) (d := d) r (by simpa using e)
    exact ⟨v, by simpa using h1, h2⟩
theorem Rels.getV : ∀ {vs : List V} {ds : List D} {i : Nat} {v : V}, Rels K nf H vs ds → vs[i]? = some v → ∃ d, ds[i]? = some d ∧ Rel K nf H v d
  | _, _, _, _, .nil, e => by simp at e
  | _, _, 0, _, .cons h _, e => by simp at e; subst e; exact ⟨_, rfl, h⟩
  | _, _, i + 1, d, .cons _ r, e => by
    obtain ⟨v, h1, h2⟩ := Rels.getV (i := i) (v := d) r (by simpa using e)
    exact ⟨v, by simpa using h1, h2⟩
theorem Rels.append : ∀ {vs ws : List V} {ds es : List D}, Rels K nf H vs ds → Rels K nf H ws es → Rels K nf H (vs ++ ws) (ds ++ es)
  | _, _, _, _, .nil, s => s
  | _, _, _, _, .cons h r, s => .cons h (Rels.append r s)
theorem Rels.take : ∀ {vs : List V} {ds : List D} (n : Nat), Rels K nf H vs ds → Rels K nf H (vs.take n) (ds.take n)
  | _, _, 0, _ => .nil
  | _, _, _ + 1, .nil => .nil
  | _, _, n + 1, .cons h r => .cons h (Rels.take n r)
theorem Rels.drop : ∀ {vs : List V} {ds : List D} (n : Nat), Rels K nf H vs ds → Rels K nf H (vs.drop n) (ds.drop n)
  | _, _, 0, r => r
  | _, _, _ + 1, .nil => .nil
  | _, _, n + 1, .cons _ r => Rels.drop n r
/-- an owned thing: its value, the addresses that it owns, what is true of the heap there -/
structure OA (nf : NFs) where
  inv : V → List Addr → Hp → Prop
  frame : ∀ {v fp H H'}, inv v fp H → (∀ a ∈ fp, H' a = H a) → Stp nf H H' → inv v fp H'
  trk : ∀ {v fp H}, inv v fp H → ∀ a ∈ fp, ∃ u, H a = some u ∧ ¬ Fzn nf u ∧ Pl u
  nd : ∀ {v fp H}, inv v fp H → fp.Nodup
inductive SD (nf : NFs) where
  | un | fz (d : D) | ow (v : V) (A : OA nf) | fr (v : V) (d : D)
def SlotR (K : PySem.W.Frag) (nf : NFs) (H : Hp) (o : Option V) (fp : List Addr) : SD nf → Prop
  | .un => fp = []
  | .fz d => fp = [] ∧ ∃ v, o = some v ∧ Rel K nf H v d
  | .ow v A => o = some v ∧ A.inv v fp H
  | .fr v d => fp = [] ∧ o = some v ∧ Rel K nf H v d
inductive EnvL (K : PySem.W.Frag) (nf : NFs) (H : Hp) : List (Option V) → List (SD nf) → List Addr → Prop
  | nil : EnvL K nf H [] [] []
  | cons {o σ s env fp fq} : SlotR K nf H o fp s → EnvL K nf H σ env fq → (∀ a ∈ fp, a ∉ fq) → EnvL K nf H (o :: σ) (s :: env) (fp ++ fq)
/-- the table at P, if it is one of the program's -/
def TabQ (nf : NFs) (H : Hp) (P : Addr) : Prop := P ∈ nf.tbs → NdefX.TabN H P nf.nm
theorem TabQ.ext {P : Addr} (t : TabQ nf H P) (e : ∀ b o, H b = some o → H' b = some o) : TabQ nf H' P := fun m => (t m).ext e
/-- what may change: the owned objects; new ones may come -/
structure Ch (nf : NFs) (fp : List Addr) (H : Hp) (fp' : List Addr) (H' : Hp) : Prop where
  keep : ∀ a u, H a = some u → a ∉ fp → (∀ ps, u ≠ .tbl ps) → H' a = some u
  sub : ∀ a ∈ fp', a ∈ fp ∨ H a = none
  there : ∀ a, H' a = none → H a = none
  tab : ∀ P, TabQ nf H P → TabQ nf H' P
theorem Ch.refl {fp : List Addr} : Ch nf fp H fp H := ⟨fun _ _ h _ _ => h, fun _ h => .inl h, fun _ h => h, fun _ h => h⟩
theorem Ch.trans {fp fp1 fp2 : List Addr} (x : Ch nf fp H fp1 H1) (y : Ch nf fp1 H1 fp2 H2) : Ch nf fp H fp2 H2 := bxU (by simp (disch := with_unfolding_all
  refine ⟨fun a u h n t => y.keep a u (x.keep a u h n t) (fun m => ?_) t, fun a m => ?_, fun a h => x.there a (y.there a h), fun P h => y.tab P (x.tab P h)⟩
  · rcases x.sub a m with q | q
    · exact n q
    · rw [q] at h; cases h
  · rcases y.sub a m with q | q
    · exact x.sub a q
    · exact .inr (x.there a q)) only [bxI])
theorem tab_keep {P : Addr} (k : ∀ a u, H a = some u → ¬ Pl u → H' a = some u) (h : TabQ nf H P) : TabQ nf H' P := by
  intro hP
  obtain ⟨ps, h1, h2, h3⟩ := h hP
  refine ⟨ps, k _ _ h1 (fun z => z.1 ps rfl), h2, fun pos cv hc => ?_⟩
  obtain ⟨c, e1, e2⟩ := h3 pos cv hc
  exact ⟨c, e1, k _ _ e2 fun z => z.2 _ rfl⟩
theorem tab_upd {P p : Addr} {u o : HO} (hp : H p = some u) (hu : Pl u) (h : TabQ nf H P) : TabQ nf (upd H p o) P := bxU (by simp (disch := with_unfolding_all
  exact tab_keep (fun a w e n => by
    rw [upd_ne fun z => ?_]
    · exact e
    · subst z; rw [hp] at e; cases e; exact n hu) h) only [bxI])
/-- what is not owned stands -/
theorem Ch.of {fp fp' : List Addr} (k : ∀ a u, H a = some u → a ∉ fp → H' a = some u) (t : ∀ a ∈ fp, ∀ u, H a = some u → Pl u) (sub : ∀ a ∈ fp', a ∈ fp ∨ H a = none) (there : ∀ a, H' a = none → H a = none) : Ch nf fp H fp' H' :=
  ⟨fun a u e n _ => k a u e n, sub, there, fun P h => tab_keep (fun a u e n => k a u e fun m => n (t a m u e)) h⟩
theorem pl_lst {xs : List V} : Pl (.lst xs) := ⟨nofun, nofun⟩
theorem fzn_pl {u : HO} (h : Fzn nf u) : ∀ ps, u ≠ .tbl ps := bxU (by simp (disch := with_unfolding_all
  exact fun ps z => by subst z; exact h) only [bxI])
theorem SlotR.frame {o : Option V} {fp : List Addr} {s : SD nf} (h : SlotR K nf H o fp s) (k : ∀ a ∈ fp, H' a = H a) (st : Stp nf H H') : SlotR K nf H' o fp s := bxU (by simp (disch := with_unfolding_all
  cases s with
  | un => exact h
  | fz d => obtain ⟨e, v, ev, r⟩ := h; exact ⟨e, v, ev, r.mono st⟩
  | ow v A => exact ⟨h.1, A.frame h.2 k st⟩
  | fr v d => exact ⟨h.1, h.2.1, h.2.2.mono st⟩) only [bxI])
theorem SlotR.trk {o : Option V} {fp : List Addr} {s : SD nf} (h : SlotR K nf H o fp s) : ∀ a ∈ fp, ∃ u, H a = some u ∧ ¬ Fzn nf u ∧ Pl u := bxU (by simp (disch := with_unfolding_all
  cases s with
  | un => cases (show fp = [] from h); intro a m; cases m
  | fz d => obtain ⟨e, _⟩ := h; subst e; intro a m; cases m
  | ow v A => exact A.trk h.2
  | fr v d => obtain ⟨e, _⟩ := h; subst e; intro a m; cases m) only [bxI])
theorem SlotR.nd {o : Option V} {fp : List Addr} {s : SD nf} (h : SlotR K nf H o fp s) : fp.Nodup := bxU (by simp (disch := with_unfolding_all
  cases s with
  | un => cases (show fp = [] from h); exact List.nodup_nil
  | fz d => obtain ⟨e, _⟩ := h; subst e; exact List.nodup_nil
  | ow v A => exact A.nd h.2
  | fr v d => obtain ⟨e, _⟩ := h; subst e; exact List.nodup_nil) only [bxI])
theorem EnvL.trk {σ : List (Option V)} {env : List (SD nf)} {fp : List Addr} (h : EnvL K nf H σ env fp) : ∀ a ∈ fp, ∃ u, H a = some u ∧ ¬ Fzn nf u ∧ Pl u := bxU (by simp (disch := with_unfolding_all
  induction h with
  | nil => intro a m; cases m
  | cons s _ _ ih =>
    intro a m
    rcases List.mem_append.mp m with m | m
    · exact s.trk a m
    · exact ih a m) only [bxI])
theorem EnvL.frame {σ : List (Option V)} {env : List (SD nf)} {fp : List Addr} (h : EnvL K nf H σ env fp) (k : ∀ a ∈ fp, H' a = H a) (st : Stp nf H H') : EnvL K nf H' σ env fp := bxU (by simp (disch := with_unfolding_all
  induction h with
  | nil => exact .nil
  | cons s _ d ih => exact .cons (s.frame (fun a m => k a (List.mem_append_left _ m)) st) (ih fun a m => k a (List.mem_append_right _ m)) d) only [bxI])
theorem EnvL.length {σ : List (Option V)} {env : List (SD nf)} {fp : List Addr} (h : EnvL K nf H σ env fp) : σ.length = env.length := bxU (by simp (disch := with_unfolding_all
  induction h with
  | nil => rfl
  | cons _ _ _ ih => rw [List.length_cons, List.length_cons, ih]) only [bxI])
/-- the owned objects are no frozen ones: all that is frozen stands behind a change -/
theorem Ch.stpL {fp fp' : List Addr} {σ : List (Option V)} {env : List (SD nf)} (c : Ch nf fp H fp' H') (h : EnvL K nf H σ env fp) : Stp nf H H' := fun a u e f => c.keep a u e (fun m => by
  obtain ⟨u', e', nf', _⟩ := h.trk a m
  rw [e] at e'; cases e'
  exact nf' f) (fzn_pl f)
theorem EnvL.pl {σ : List (Option V)} {env : List (SD nf)} {fp : List Addr} (h : EnvL K nf H σ env fp) : ∀ a ∈ fp, ∀ u, H a = some u → Pl u := fun a m u e => by
  obtain ⟨u', e', _, p⟩ := h.trk a m
  rw [e] at e'; cases e'
  exact p
/-- all stands, new things may have come -/
def Xt (H H' : Hp) : Prop := ∀ a u, H a = some u → H' a = some u
theorem Xt.refl : Xt H H := fun _ _ h => h
theorem Xt.trans (a : Xt H H1) (b : Xt H1 H2) : Xt H H2 := fun x u h => b x u (a x u h)
theorem Xt.stp (x : Xt H H') : Stp nf H H' := fun a u e _ => x a u e
theorem Xt.new {p : Addr} {o : HO} (h : H p = none) : Xt H (upd H p o) := fun a u e => by rw [upd_ne (ne_of_none e h)]; exact e
theorem Xt.ch {fp : List Addr} (x : Xt H H') : Ch nf fp H fp H' := bxU (by simp (disch := with_unfolding_all
  exact ⟨fun a u h _ _ => x a u h, fun _ h => .inl h, (fun a h => by
  cases q : H a with
  | none => rfl
  | some u => rw [x a u q] at h; cases h), fun P h => h.ext x⟩) only [bxI])
theorem EnvL.ext {σ : List (Option V)} {env : List (SD nf)} {fp : List Addr} (h : EnvL K nf H σ env fp) (x : Xt H H') : EnvL K nf H' σ env fp := bxU (by simp (disch := with_unfolding_all
  exact h.frame (fun a m => by obtain ⟨u, e, _⟩ := h.trk a m; rw [e, x a u e]) x.stp) only [bxI])
/-- THE SLOT i: what it holds, and how it is replaced -/
theorem EnvL.at {σ : List (Option V)} {env : List (SD nf)} {fp : List Addr} (h : EnvL K nf H σ env fp) : ∀ {i : Nat} {s : SD nf}, env[i]? = some s →
    ∃ o fi, σ[i]? = some o ∧ SlotR K nf H o fi s ∧ (∀ a ∈ fi, a ∈ fp) ∧
      ∀ H' o' s' fi', SlotR K nf H' o' fi' s' → (∀ a u, H a = some u → a ∉ fi → H' a = some u) → (∀ a ∈ fi', a ∈ fi ∨ H a = none) → Stp nf H H' →
        ∃ fp', EnvL K nf H' (σ.set i o') (env.set i s') fp' ∧ ∀ a ∈ fp', a ∈ fp ∨ H a = none := by
  induction h with
  | nil => intro i s e; simp at e
  | @cons o σ s env fp fq hs he hd ih =>
    intro i s0 e
    cases i with
    | zero =>
      simp at e
      subst e
      refine ⟨o, fp, rfl, hs, fun a m => List.mem_append_left _ m, fun H' o' s' fi' hs' k sub st => ?_⟩
      have kq : ∀ a ∈ fq, H' a = H a := fun a m => by
        obtain ⟨u, eu, _⟩ := he.trk a m
        rw [eu]
        exact k a u eu fun z => hd a z m
      refine ⟨fi' ++ fq, .cons hs' (he.frame kq st) fun a m z => ?_, fun a m => ?_⟩
      · rcases sub a m with q | q
        · exact hd a q z
        · obtain ⟨u, eu, _⟩ := he.trk a z
          rw [q] at eu; cases eu
      · rcases List.mem_append.mp m with m | m
        · exact (sub a m).imp (List.mem_append_left _) id
        · exact .inl (List.mem_append_right _ m)
    | succ i =>
      obtain ⟨o1, fi, e1, s1, sub1, rep⟩ := ih (i := i) (s := s0) (by simpa using e)
      refine ⟨o1, fi, by simpa using e1, s1, fun a m => List.mem_append_right _ (sub1 a m), fun H' o' s' fi' hs' k sub st => ?_⟩
      obtain ⟨fp', he', sub'⟩ := rep H' o' s' fi' hs' k sub st
      have kp : ∀ a ∈ fp, H' a = H a := fun a m => by
        obtain ⟨u, eu, _⟩ := hs.trk a m
        rw [eu]
        exact k a u eu fun z => hd a m (sub1 a z)
      refine ⟨fp ++ fp', .cons (hs.frame kp st) he' fun a m z => ?_, fun a m => ?_⟩
      · rcases sub' a z with q | q
        · exact hd a m q
        · obtain ⟨u, eu, _⟩ := hs.trk a m
          rw [q] at eu; cases eu
      · rcases List.mem_append.mp m with m | m
        · exact .inl (List.mem_append_left _ m)
        · exact (sub' a m).imp (List.mem_append_right _) id
end
class Anch (nf : NFs) where
  p : List Addr → Hp → Prop
  up : ∀ {fp H fp' H'}, p fp H → Ch nf fp H fp' H' → p fp' H'
def Anch.triv {nf : NFs} : Anch nf := ⟨fun _ _ => True, fun _ _ => trivial⟩
instance (priority := low) anchTriv {nf : NFs} : Anch nf := Anch.triv
/-- slots against the heap, under the anchor -/
def EnvR (K : PySem.W.Frag) (nf : NFs) [Anch nf] (H : Hp) (σ : List (Option V)) (env : List (SD nf)) (fp : List Addr) : Prop := EnvL K nf H σ env fp ∧ Anch.p nf fp H
section
variable {nf : NFs} [Anch nf] {K : PySem.W.Frag} {H H' H1 H2 : Hp} {σ : List (Option V)} {env : List (SD nf)} {fp fp' : List Addr}
theorem EnvR.l (R : EnvR K nf H σ env fp) : EnvL K nf H σ env fp := R.1
theorem EnvR.trk (R : EnvR K nf H σ env fp) : ∀ a ∈ fp, ∃ u, H a = some u ∧ ¬ Fzn nf u ∧ Pl u := R.1.trk
theorem EnvR.length (R : EnvR K nf H σ env fp) : σ.length = env.length := R.1.length
theorem Ch.stp {env : List (SD nf)} (c : Ch nf fp H fp' H') (R : EnvR K nf H σ env fp) : Stp nf H H' := c.stpL R.1
theorem EnvR.ext (R : EnvR K nf H σ env fp) (x : Xt H H') : EnvR K nf H' σ env fp := ⟨R.1.ext x, Anch.up R.2 x.ch⟩
theorem Ch.put {p : Addr} {o u : HO} (c : Ch nf fp H fp' H') (hp : H p = none) (hp' : H' p = some u) (hu : Pl u) : Ch nf fp H fp' (upd H' p o) := bxU (by simp (disch := with_unfolding_all
  exact ⟨fun a u e n t => by rw [upd_ne (ne_of_none e hp)]; exact c.keep a u e n t, c.sub, (fun a e => c.there a (by
  by_cases ha : a = p
  · subst ha; rw [upd_same] at e; cases e
  · rw [upd_ne ha] at e; exact e)), fun P h => tab_upd hp' hu (c.tab P h)⟩) only [bxI])
theorem EnvR.re {σ' : List (Option V)} {env' : List (SD nf)} (R : EnvR K nf H σ env fp) (R' : EnvL K nf H' σ' env' fp') (c : Ch nf fp H fp' H') : EnvR K nf H' σ' env' fp' := ⟨R', Anch.up R.2 c⟩
theorem EnvR.rex {σ' : List (Option V)} {env' : List (SD nf)} (R : EnvR K nf H σ env fp) (R' : EnvL K nf H' σ' env' fp') (c : Ch nf fp H fp' H') : ∃ fp', EnvR K nf H' σ' env' fp' ∧ Ch nf fp H fp' H' := ⟨fp', R.re R' c, c⟩
/-- the owned ones stand; the anchor by a change from further back -/
theorem EnvR.frame {fp0 : List Addr} {H0 : Hp} (R : EnvR K nf H σ env fp) (k : ∀ a ∈ fp, H' a = H a) (st : Stp nf H H') (p0 : Anch.p nf fp0 H0) (c : Ch nf fp0 H0 fp H') : EnvR K nf H' σ env fp := ⟨R.1.frame k st, Anch.up p0 c⟩
theorem EnvR.at (R : EnvR K nf H σ env fp) : ∀ {i : Nat} {s : SD nf}, env[i]? = some s →
    ∃ o fi, σ[i]? = some o ∧ SlotR K nf H o fi s ∧ (∀ a ∈ fi, a ∈ fp) ∧
      ∀ H' o' s' fi', SlotR K nf H' o' fi' s' → (∀ a u, H a = some u → a ∉ fi → H' a = some u) → (∀ a ∈ fi', a ∈ fi ∨ H a = none) → Stp nf H H' →
        ∃ fp', EnvL K nf H' (σ.set i o') (env.set i s') fp' ∧ ∀ a ∈ fp', a ∈ fp ∨ H a = none := R.1.at
end
end DL
namespace DL
open PySem L2
abbrev EV (nf : NFs) := List (SD nf)
abbrev DT (nf : NFs) := EV nf → (D → EV nf → Prop) → Prop
abbrev DB (nf : NFs) := EV nf → (Bool → EV nf → Prop) → Prop
abbrev DAs (nf : NFs) := EV nf → (List D → EV nf → Prop) → Prop
structure EndsD (nf : NFs) where
  nx : EV nf → Prop
  rt : D → EV nf → Prop
  bk : EV nf → Prop := fun _ => False
  ct : EV nf → Prop := fun _ => False
  ro : V → OA nf → EV nf → Prop := fun _ _ _ => False
abbrev DTS (nf : NFs) := EndsD nf → EV nf → Prop
section
variable (K : PySem.W.Frag) (nf : NFs) [Anch nf]
def lift (td : DT nf) : TE := fun σ H Q => ∃ env fp Qd, EnvR K nf H σ env fp ∧ td env Qd ∧ ∀ v H' d env' fp', Rel K nf H' v d → EnvR K nf H' σ env' fp' → Ch nf fp H fp' H' → Qd d env' → Q v H'
def liftB (td : DB nf) : TT := fun σ H Q => ∃ env fp Qd, EnvR K nf H σ env fp ∧ td env Qd ∧ ∀ b H' env' fp', EnvR K nf H' σ env' fp' → Ch nf fp H fp' H' → Qd b env' → Q b H'
def liftA (td : DAs nf) : TA := fun σ H Q => ∃ env fp Qd, EnvR K nf H σ env fp ∧ td env Qd ∧ ∀ vs H' ds env' fp', Rels K nf H' vs ds → EnvR K nf H' σ env' fp' → Ch nf fp H fp' H' → Qd ds env' → Q vs H'
structure Br (H : Hp) (fp : List Addr) (De : EndsD nf) (E : Ends) : Prop where
  nx : ∀ σ' H' env' fp', EnvR K nf H' σ' env' fp' → Ch nf fp H fp' H' → De.nx env' → E.nx σ' H'
  rt : ∀ v d σ' H' env' fp', Rel K nf H' v d → EnvR K nf H' σ' env' fp' → Ch nf fp H fp' H' → De.rt d env' → E.rt v H'
  bk : ∀ σ' H' env' fp', EnvR K nf H' σ' env' fp' → Ch nf fp H fp' H' → De.bk env' → E.bk σ' H'
  ct : ∀ σ' H' env' fp', EnvR K nf H' σ' env' fp' → Ch nf fp H fp' H' → De.ct env' → E.ct σ' H'
  ro : ∀ v A σ' H' env' fp' fi, A.inv v fi H' → EnvR K nf H' σ' env' fp' → (∀ a ∈ fi, a ∉ fp') → Ch nf fp H (fi ++ fp') H' → De.ro v A env' → E.rt v H'
def liftS (td : DTS nf) : TS := fun E σ H => ∃ env fp De, EnvR K nf H σ env fp ∧ td De env ∧ Br K nf H fp De E
end
section
variable {X : Cx} {nf : NFs} [Anch nf] {K : PySem.W.Frag}
theorem pe_imp {e : Expr} {t t' : TE} (h : PE X e t) (i : ∀ σ H Q, t' σ H Q → t σ H Q) : PE X e t' := ⟨fun pins s σ H Q I q => h.run pins s σ H Q I (i σ H Q q)⟩
theorem pt_imp {e : Expr} {t t' : TT} (h : PT X e t) (i : ∀ σ H Q, t' σ H Q → t σ H Q) : PT X e t' := ⟨fun pins s σ H Q I q => h.run pins s σ H Q I (i σ H Q q)⟩
theorem pw_imp {e : Expr} {t t' : TT} (h : PW X e t) (i : ∀ σ H Q, t' σ H Q → t σ H Q) : PW X e t' := ⟨fun w pins s σ H Q I q => h.run w pins s σ H Q I (i σ H Q q)⟩
theorem pa_imp {es : List Expr} {t t' : TA} (h : PA X es t) (i : ∀ σ H Q, t' σ H Q → t σ H Q) : PA X es t' := ⟨fun p pins s σ H Q I q => h.run p pins s σ H Q I (i σ H Q q)⟩
theorem ps_imp {st : Stmt} {t t' : TS} (h : PS X st t) (i : ∀ E σ H, t' E σ H → t E σ H) : PS X st t' := ⟨fun pins s σ H E I q => h.run pins s σ H E I (i E σ H q)⟩
theorem pss_imp {st : List Stmt} {t t' : TS} (h : PSs X st t) (i : ∀ E σ H, t' E σ H → t E σ H) : PSs X st t' := ⟨fun pins s σ H E I q => h.run pins s σ H E I (i E σ H q)⟩
variable (X nf)
abbrev DE (e : Expr) (td : DT nf) : Prop := PE X e (lift X.K nf td)
abbrev DC (e : Expr) (td : DB nf) : Prop := PT X e (liftB X.K nf td)
abbrev DW (e : Expr) (td : DB nf) : Prop := PW X e (liftB X.K nf td)
abbrev DA (es : List Expr) (td : DAs nf) : Prop := PA X es (liftA X.K nf td)
abbrev DS (st : Stmt) (td : DTS nf) : Prop := PS X st (liftS X.K nf td)
abbrev DSs (st : List Stmt) (td : DTS nf) : Prop := PSs X st (liftS X.K nf td)
variable {X nf}
theorem lift_run {td : DT nf} {σ : St} {H : Hp} {Q : VK} {env : EV nf} {fp : List Addr} {Qd : D → EV nf → Prop} (R : EnvR K nf H σ env fp) (h : td env Qd)
    (k : ∀ v H' d env' fp', Rel K nf H' v d → EnvR K nf H' σ env' fp' → Ch nf fp H fp' H' → Qd d env' → Q v H') : lift K nf td σ H Q := ⟨env, fp, Qd, R, h, k⟩
def dVar (i : Nat) : DT nf := fun env Q => ∃ d, env[i]? = some (.fz d) ∧ Q d env
theorem de_var {i : Nat} {e : Expr} (h : PE X e (tVar i)) : DE X nf e (dVar i) := pe_imp h fun σ H Q ⟨env, fp, Qd, R, ⟨d, e, q⟩, k⟩ => by
  obtain ⟨o, fi, e1, ⟨_, v, ev, r⟩, _⟩ := R.at e
  subst ev
  exact ⟨v, e1, k v H d env fp r R Ch.refl q⟩
theorem dv (i : Nat) {x : Str} {pos : Pos} (hN : X.N[i]? = some x := by rfl) (hv : Vis X.env.scope x := by first | exact Or.inl rfl | exact Or.inr (Or.inl rfl) | exact Or.inr (Or.inr rfl)) (hd : (x == ("__debug__" : Str)) = false := by decide)
    (hcd : (x == ("__classdict__" : Str)) = false := by decide) : DE X nf (.Name x pos) (dVar i) := de_var (pv i hN hv hd hcd)
def dC (d : D) : DT nf := fun env Q => Q d env
theorem de_c {e : Expr} {v : V} {d : D} (h : PE X e (tC v)) (r : ∀ H, Rel X.K nf H v d) : DE X nf e (dC d) := pe_imp h fun σ H Q ⟨env, fp, Qd, R, q, k⟩ => k v H d env fp (r H) R Ch.refl q
theorem de_int {i j pos} : DE X nf (.Constant (.int i) j pos) (dC (.int i)) := de_c pe_int fun _ => .int i
theorem de_bl {b j pos} : DE X nf (.Constant (.bool b) j pos) (dC (.bl b)) := de_c pe_bl fun _ => .bl b
theorem de_non {j pos} : DE X nf (.Constant .none j pos) (dC .non) := de_c pe_non fun _ => .non
theorem de_str {x j pos} : DE X nf (.Constant (.str x) j pos) (dC (.str x)) := de_c pe_str fun _ => .str x
/-- r on values that stand for x, y gives one that stands for z; new things may come -/
def OpD (K : PySem.W.Frag) (nf : NFs) (r : R2) (f : D → D → D → Prop) : Prop := ∀ H v w x y z, Rel K nf H v x → Rel K nf H w y → f x y z → ∀ Q : VK, (∀ u H', Rel K nf H' u z → Xt H H' → Q u H') → r v w H Q
def dOp (f : D → D → D → Prop) (da db : DT nf) : DT nf := fun env Q => da env fun x env1 => db env1 fun y env2 => ∃ z, f x y z ∧ Q z env2
theorem lift_op {r : R2} {f : D → D → D → Prop} {da db : DT nf} (o : OpD K nf r f) (σ : St) (H : Hp) (Q : VK) (h : lift K nf (dOp f da db) σ H Q) : tOp r (lift K nf da) (lift K nf db) σ H Q := bxU (by simp (disch := with_unfolding_all
  obtain ⟨env, fp, Qd, R, h, k⟩ := h
  refine lift_run R h fun v H1 x env1 fp1 r1 R1 c1 h1 => ?_
  refine lift_run R1 h1 fun w H2 y env2 fp2 r2 R2 c2 ⟨z, hz, q⟩ => ?_
  refine o H2 v w x y z (r1.mono (c2.stp R1)) r2 hz Q fun u H3 r3 x3 => ?_
  exact k u H3 z env2 fp2 r3 (R2.ext x3) ((c1.trans c2).trans x3.ch) q) only [bxI])
theorem de_op {a b : Expr} {op : Operator} {pos : Pos} {r : R2} {f : D → D → D → Prop} {da db : DT nf} (ho : OpR X (binaryOp op) r) (o : OpD X.K nf r f) (ha : DE X nf a da) (hb : DE X nf b db) : DE X nf (.BinOp a op b pos) (dOp f da db) :=
  pe_imp (pe_op ho ha hb) (lift_op o)
theorem de_cmp {a b : Expr} {op : CmpOp} {pos : Pos} {r : R2} {f : D → D → D → Prop} {da db : DT nf} (ho : OpR X (compareOp op) r) (o : OpD X.K nf r f) (ha : DE X nf a da) (hb : DE X nf b db) (hm : behindInMarks op b = false) : DE X nf (.Compare a [op] [b] pos) (dOp f da db) :=
  pe_imp (pe_cmpR ho ha hb hm) (lift_op o)
theorem de_ix {a b : Expr} {pos : Pos} {r : R2} {f : D → D → D → Prop} {da db : DT nf} (ho : IxR X r) (o : OpD X.K nf r f) (ha : DE X nf a da) (hb : DE X nf b db) (hs : PlainIx b) : DE X nf (.Subscript a b pos) (dOp f da db) :=
  pe_imp (pe_ix ho ha hb hs) (lift_op o)
def dBv (da : DT nf) : DB nf := fun env Q => da env fun x env1 => ∃ b, x = .bl b ∧ Q b env1
theorem rel_bl {H : Hp} {v : V} {b : Bool} (h : Rel K nf H v (.bl b)) : v = .bl b := bxU (by simp (disch := with_unfolding_all (cases h; rfl)) only [bxI])
theorem rel_int {H : Hp} {v : V} {b : Int} (h : Rel K nf H v (.int b)) : v = .int b := bxU (by simp (disch := with_unfolding_all (cases h; rfl)) only [bxI])
theorem rel_str {H : Hp} {v : V} {b : Str} (h : Rel K nf H v (.str b)) : v = .str b := bxU (by simp (disch := with_unfolding_all (cases h; rfl)) only [bxI])
theorem rel_non {H : Hp} {v : V} (h : Rel K nf H v .non) : v = .non := bxU (by simp (disch := with_unfolding_all (cases h; rfl)) only [bxI])
theorem lift_B {da : DT nf} (σ : St) (H : Hp) (Q : Bool → Hp → Prop) (h : liftB K nf (dBv da) σ H Q) : tB (lift K nf da) σ H Q := bxU (by simp (disch := with_unfolding_all
  obtain ⟨env, fp, Qd, R, h, k⟩ := h
  refine lift_run R h fun v H1 x env1 fp1 r1 R1 c1 ⟨b, e, q⟩ => ?_
  subst e
  exact ⟨b, rel_bl r1, k b H1 env1 fp1 R1 c1 q⟩) only [bxI])
/-- an expression of a bool, as a test (not a comparison, and, or, not) -/
theorem dc_val {e : Expr} {da : DT nf} (h : DE X nf e da) (he : ∀ whole, isTrue e X.env whole = (do let v ← whole; standAt e.pos; holding [v] (truthy v)) := by intro _; rfl) : DC X nf e (dBv da) := pt_imp (pt_val h he) lift_B
def dAnd (a b : DB nf) : DB nf := fun env Q => a env fun c env1 => if c = true then b env1 Q else Q false env1
def dOr (a b : DB nf) : DB nf := fun env Q => a env fun c env1 => if c = true then Q true env1 else b env1 Q
def dNot (a : DB nf) : DB nf := fun env Q => a env fun c env1 => Q (!c) env1
theorem lift_and {a b : DB nf} (σ : St) (H : Hp) (Q : Bool → Hp → Prop) (h : liftB K nf (dAnd a b) σ H Q) : tAnd (liftB K nf a) (liftB K nf b) σ H Q := bxU (by simp (disch := with_unfolding_all
  obtain ⟨env, fp, Qd, R, h, k⟩ := h
  refine ⟨env, fp, _, R, h, fun c H1 env1 fp1 R1 c1 q => ?_⟩
  cases c with
  | true => exact ⟨env1, fp1, Qd, R1, q, fun b H2 env2 fp2 R2 c2 q2 => k b H2 env2 fp2 R2 (c1.trans c2) q2⟩
  | false => exact k false H1 env1 fp1 R1 c1 q) only [bxI])
theorem lift_or {a b : DB nf} (σ : St) (H : Hp) (Q : Bool → Hp → Prop) (h : liftB K nf (dOr a b) σ H Q) : tOr (liftB K nf a) (liftB K nf b) σ H Q := bxU (by simp (disch := with_unfolding_all
  obtain ⟨env, fp, Qd, R, h, k⟩ := h
  refine ⟨env, fp, _, R, h, fun c H1 env1 fp1 R1 c1 q => ?_⟩
  cases c with
  | false => exact ⟨env1, fp1, Qd, R1, q, fun b H2 env2 fp2 R2 c2 q2 => k b H2 env2 fp2 R2 (c1.trans c2) q2⟩
  | true => exact k true H1 env1 fp1 R1 c1 q) only [bxI])
theorem lift_not {a : DB nf} (σ : St) (H : Hp) (Q : Bool → Hp → Prop) (h : liftB K nf (dNot a) σ H Q) : tNot (liftB K nf a) σ H Q := bxU (by simp (disch := with_unfolding_all
  obtain ⟨env, fp, Qd, R, h, k⟩ := h
  exact ⟨env, fp, _, R, h, fun c H1 env1 fp1 R1 c1 q => k (!c) H1 env1 fp1 R1 c1 q⟩) only [bxI])
section
variable {a b : Expr} {rest : List Expr} {pos : Pos} {ta tb : DB nf}
theorem dw_and1 (h : DC X nf a ta) : DW X nf (.BoolOp .And [a] pos) ta := pw_and1 h
theorem dw_or1 (h : DC X nf a ta) : DW X nf (.BoolOp .Or [a] pos) ta := pw_or1 h
theorem dw_and (ha : DC X nf a ta) (hb : DW X nf (.BoolOp .And (b :: rest) pos) tb) : DW X nf (.BoolOp .And (a :: b :: rest) pos) (dAnd ta tb) := pw_imp (pw_and ha hb) lift_and
theorem dw_or (ha : DC X nf a ta) (hb : DW X nf (.BoolOp .Or (b :: rest) pos) tb) : DW X nf (.BoolOp .Or (a :: b :: rest) pos) (dOr ta tb) := pw_imp (pw_or ha hb) lift_or
theorem dc_not (ha : DC X nf a ta) : DC X nf (.UnaryOp .Not a pos) (dNot ta) := pt_imp (pt_not ha) lift_not
theorem DW.dc (h : DW X nf a ta) : DC X nf a ta := h.pt
end
/-- a comparison as a test -/
theorem dc_cmp {a b : Expr} {op : CmpOp} {pos : Pos} {r : R2} {f : D → D → D → Prop} {da db : DT nf} (ho : OpR X (compareOp op) r) (o : OpD X.K nf r f) (ha : DE X nf a da) (hb : DE X nf b db) (hm : behindInMarks op b = false) : DC X nf (.Compare a [op] [b] pos) (dBv (dOp f da db)) := bxU (by simp (disch := with_unfolding_all
  exact pt_imp (pt_cmpR ho ha hb hm) fun σ H Q h => by
    obtain ⟨env, fp, Qd, R, h, k⟩ := h
    refine lift_op o σ H _ (lift_run R h fun v H1 x env1 fp1 r1 R1 c1 ⟨b, e, q⟩ => ?_)
    subst e
    exact ⟨b, rel_bl r1, k b H1 env1 fp1 R1 c1 q⟩) only [bxI])
def dAndV (a b : DT nf) : DT nf := fun env Q => a env fun x env1 => ∃ c, x = .bl c ∧ if c = true then b env1 Q else Q (.bl false) env1
def dOrV (a b : DT nf) : DT nf := fun env Q => a env fun x env1 => ∃ c, x = .bl c ∧ if c = true then Q (.bl true) env1 else b env1 Q
def dNotV (a : DT nf) : DT nf := fun env Q => a env fun x env1 => ∃ c, x = .bl c ∧ Q (.bl (!c)) env1
section
variable {a b : Expr} {rest : List Expr} {pos : Pos} {da db : DT nf}
theorem de_one {op} (h : DE X nf a da) : DE X nf (.BoolOp op [a] pos) da := pe_one h
theorem de_and (ha : DE X nf a da) (hb : DE X nf (.BoolOp .And (b :: rest) pos) db) : DE X nf (.BoolOp .And (a :: b :: rest) pos) (dAndV da db) := pe_imp (pe_and ha hb) fun σ H Q h => by
  obtain ⟨env, fp, Qd, R, h, k⟩ := h
  refine lift_run R h fun v H1 x env1 fp1 r1 R1 c1 ⟨c, e, q⟩ => ?_
  subst e
  refine ⟨c, rel_bl r1, ?_⟩
  cases c with
  | true => exact ⟨env1, fp1, Qd, R1, q, fun v H2 d env2 fp2 r2 R2 c2 q2 => k v H2 d env2 fp2 r2 R2 (c1.trans c2) q2⟩
  | false => exact k _ H1 _ env1 fp1 (.bl false) R1 c1 q
theorem de_or (ha : DE X nf a da) (hb : DE X nf (.BoolOp .Or (b :: rest) pos) db) : DE X nf (.BoolOp .Or (a :: b :: rest) pos) (dOrV da db) := pe_imp (pe_or ha hb) fun σ H Q h => by
  obtain ⟨env, fp, Qd, R, h, k⟩ := h
  refine lift_run R h fun v H1 x env1 fp1 r1 R1 c1 ⟨c, e, q⟩ => ?_
  subst e
  refine ⟨c, rel_bl r1, ?_⟩
  cases c with
  | false => exact ⟨env1, fp1, Qd, R1, q, fun v H2 d env2 fp2 r2 R2 c2 q2 => k v H2 d env2 fp2 r2 R2 (c1.trans c2) q2⟩
  | true => exact k _ H1 _ env1 fp1 (.bl true) R1 c1 q
theorem de_not (ha : DE X nf a da) : DE X nf (.UnaryOp .Not a pos) (dNotV da) := pe_imp (pe_not ha) fun σ H Q h => by
  obtain ⟨env, fp, Qd, R, h, k⟩ := h
  refine lift_run R h fun v H1 x env1 fp1 r1 R1 c1 ⟨c, e, q⟩ => ?_
  subst e
  exact ⟨c, rel_bl r1, k _ H1 _ env1 fp1 (.bl _) R1 c1 q⟩
end
def aNil : DAs nf := fun env Q => Q [] env
def aCons (a : DT nf) (r : DAs nf) : DAs nf := fun env Q => a env fun x env1 => r env1 fun xs env2 => Q (x :: xs) env2
theorem da_nil : DA X nf [] aNil := pa_imp pa_nil fun σ H Q ⟨env, fp, Qd, R, q, k⟩ => k [] H [] env fp .nil R Ch.refl q
theorem da_cons {e : Expr} {es : List Expr} {a : DT nf} {r : DAs nf} (ha : DE X nf e a) (hr : DA X nf es r) (hs : starEach (e :: es) X.env = (false, eval e X.env) :: starEach es X.env := by rfl) : DA X nf (e :: es) (aCons a r) := bxU (by simp (disch := with_unfolding_all
  exact pa_imp (pa_cons ha hr hs) fun σ H Q h => by
    obtain ⟨env, fp, Qd, R, h, k⟩ := h
    refine lift_run R h fun v H1 x env1 fp1 r1 R1 c1 q1 => ?_
    exact ⟨env1, fp1, _, R1, q1, fun vs H2 ds env2 fp2 r2 R2 c2 q2 => k (v :: vs) H2 (x :: ds) env2 fp2 (.cons (r1.mono (c2.stp R1)) r2) R2 (c1.trans c2) q2⟩) only [bxI])
/-- behind e the thing that it gives is frozen -/
def tFz (t : TE) : TE := fun σ H Q => t σ H fun v H' => ∃ p u, v = .ref p ∧ H' p = some u ∧ Mut (some u) ∧ ∀ o, Q v (upd H' p (.frz o u))
theorem pe_fz {e : Expr} {t : TE} (h : PE X e t) : PE X e (tFz t) := bxU (by simp (disch := with_unfolding_all
  refine ⟨fun pins s σ H Q I hw => ?_⟩
  refine thn (h.run pins s σ H _ I hw) fun v s1 ⟨x, H1, I1, r, p, u, ex, hp, mu, q⟩ => ?_
  obtain ⟨o, I2⟩ := I1.lock hp mu
  exact ⟨x, _, I2, r, q o⟩) only [bxI])
/-- what freezing a new thing does -/
theorem xt_fz {H H' : Hp} {p : Addr} {u : HO} (x : Xt H H') (hp : H p = none) {o : Obj} : Xt H (upd H' p (.frz o u)) := fun a w e => by rw [upd_ne (ne_of_none e hp)]; exact x a w e
def dTup (r : DAs nf) : DT nf := fun env Q => r env fun xs env1 => xs.length ≤ 1000000 ∧ Q (.tup xs) env1
theorem sz_ok {n : Nat} (h : n ≤ 1000000) : n ≤ sizeLine := bxU (by simp (disch := with_unfolding_all
  exact Nat.le_trans h (by decide)) only [bxI])
theorem de_tup {es : List Expr} {r : DAs nf} {x1} {pos : Pos} (h : DA X nf es r) : DE X nf (.Tuple es x1 pos) (dTup r) := pe_imp (pe_tup h) fun σ H Q h => by
  obtain ⟨env, fp, Qd, R, h, k⟩ := h
  refine ⟨env, fp, _, R, h, fun vs H1 ds env1 fp1 r1 R1 c1 ⟨hl, q⟩ => ⟨by rw [r1.length]; exact sz_ok hl, fun p hp => ?_⟩⟩
  have x : Xt H1 (upd H1 p (.tup vs)) := Xt.new hp
  exact k _ _ _ env1 fp1 (.tup (SqT.of upd_same) (r1.mono x.stp)) (R1.ext x) (c1.trans x.ch) q
def dLst (r : DAs nf) : DT nf := fun env Q => r env fun xs env1 => xs.length ≤ 1000000 ∧ Q (.lst xs) env1
/-- a list display, frozen at once -/
theorem de_lst {es : List Expr} {r : DAs nf} {pos : Pos} (h : DA X nf es r) : DE X nf (.List es pos) (dLst r) := pe_imp (pe_fz (pe_lst h)) fun σ H Q h => by
  obtain ⟨env, fp, Qd, R, h, k⟩ := h
  refine ⟨env, fp, _, R, h, fun vs H1 ds env1 fp1 r1 R1 c1 ⟨hl, q⟩ => ⟨by rw [r1.length]; exact sz_ok hl, fun p hp => ⟨p, _, rfl, upd_same, trivial, fun o => ?_⟩⟩⟩
  have x : Xt H1 (upd (upd H1 p (.lst vs)) p (.frz o (.lst vs))) := xt_fz (Xt.new hp) hp
  exact k _ _ _ env1 fp1 (.lst ⟨o, upd_same⟩ (r1.mono x.stp)) (R1.ext x) (c1.trans x.ch) q
end
end DL
namespace DL
open PySem L2
section
variable {X : Cx} {nf : NFs} [Anch nf] {K : PySem.W.Frag}
theorem Br.up {H H1 : Hp} {fp fp1 : List Addr} {De : EndsD nf} {E : Ends} (b : Br K nf H fp De E) (c : Ch nf fp H fp1 H1) : Br K nf H1 fp1 De E :=
  ⟨fun σ' H' env' fp' r c' q => b.nx σ' H' env' fp' r (c.trans c') q, fun v d σ' H' env' fp' r e c' q => b.rt v d σ' H' env' fp' r e (c.trans c') q,
   fun σ' H' env' fp' r c' q => b.bk σ' H' env' fp' r (c.trans c') q, fun σ' H' env' fp' r c' q => b.ct σ' H' env' fp' r (c.trans c') q,
   fun v A σ' H' env' fp' fi i r n c' q => b.ro v A σ' H' env' fp' fi i r n (c.trans c') q⟩
def sNext : DTS nf := fun De env => De.nx env
def sSeq (a b : DTS nf) : DTS nf := fun De env => a { De with nx := b De } env
theorem ds_nil : DSs X nf [] sNext := pss_imp pss_nil fun E σ H ⟨env, fp, De, R, q, b⟩ => b.nx σ H env fp R Ch.refl q
theorem ds_cons {st : Stmt} {rest : List Stmt} {a b : DTS nf} (h1 : DS X nf st a) (h2 : DSs X nf rest b) : DSs X nf (st :: rest) (sSeq a b) := pss_imp (pss_cons h1 h2) fun E σ H ⟨env, fp, De, R, q, br⟩ =>
  ⟨env, fp, { De with nx := b De }, R, q, ⟨fun σ' H' env' fp' R' c q' => ⟨env', fp', De, R', q', br.up c⟩, br.rt, br.bk, br.ct, br.ro⟩⟩
theorem ds_one {st : Stmt} {a : DTS nf} (h1 : DS X nf st a) : DSs X nf [st] a := pss_one h1
def sIf (c : DB nf) (a b : DTS nf) : DTS nf := fun De env => c env fun k env1 => if k = true then a De env1 else b De env1
theorem ds_if {c : Expr} {p q : List Stmt} {pos : Pos} {tc : DB nf} {a b : DTS nf} (hc : DC X nf c tc) (ha : DSs X nf p a) (hb : DSs X nf q b) : DS X nf (.If c p q pos) (sIf tc a b) := bxU (by simp (disch := with_unfolding_all
  exact ps_imp (ps_if hc ha hb) fun E σ H ⟨env, fp, De, R, q, br⟩ =>
  ⟨env, fp, _, R, q, fun k H1 env1 fp1 R1 c1 q1 => by
    cases k with
    | true => exact ⟨env1, fp1, De, R1, q1, br.up c1⟩
    | false => exact ⟨env1, fp1, De, R1, q1, br.up c1⟩⟩) only [bxI])
def sRet (a : DT nf) : DTS nf := fun De env => a env De.rt
theorem ds_ret {e : Expr} {a : DT nf} {pos : Pos} (h : DE X nf e a) : DS X nf (.Return (some e) pos) (sRet a) := ps_imp (ps_ret h) fun E σ H ⟨env, fp, De, R, q, br⟩ =>
  ⟨env, fp, _, R, q, fun v H1 d env1 fp1 r1 R1 c1 q1 => br.rt v d σ H1 env1 fp1 r1 R1 c1 q1⟩
theorem EnvR.setFz {H : Hp} {σ : St} {env : EV nf} {fp : List Addr} (R : EnvR K nf H σ env fp) {i : Nat} {v : V} {d : D} (hi : i < env.length) (r : Rel K nf H v d) :
    ∃ fp', EnvR K nf H (σ.set i (some v)) (env.set i (.fz d)) fp' ∧ Ch nf fp H fp' H := bxU (by simp (disch := with_unfolding_all
  obtain ⟨o, fi, _, _, _, rep⟩ := R.at (i := i) (s := env[i]) (by simp [hi])
  obtain ⟨fp', R', sub⟩ := rep H (some v) (.fz d) [] ⟨rfl, v, rfl, r⟩ (fun a u e _ => e) (fun a m => by cases m) Stp.refl
  exact R.rex R' (Ch.of (fun a u e _ => e) R.1.pl (sub) (fun a e => e))) only [bxI])
/-- x = e -/
def sSet (i : Nat) (a : DT nf) : DTS nf := fun De env => a env fun d env1 => i < env1.length ∧ De.nx (env1.set i (.fz d))
theorem ds_set {i : Nat} {x : Str} {e : Expr} {a : DT nf} {pos pos' : Pos} (hN : X.N.Nodup) (hi : X.N[i]? = some x) (hx : Loc X.env.scope x) (h : DE X nf e a) (hs : swapsWith e (some (.Name x pos')) pos.line X.env = pure false := by rfl)
    (hf : X.fn x = true ∨ X.env.scope.names.lookup x = some .local := by first | exact .inl rfl | exact .inr rfl | assumption) : DS X nf (.Assign [.Name x pos'] e pos) (sSet i a) := bxU (by simp (disch := with_unfolding_all
  exact ps_imp (ps_set hN hi hx h hs hf) fun E σ H ⟨env, fp, De, R, q, br⟩ => ⟨env, fp, _, R, q, fun v H1 d env1 fp1 r1 R1 c1 ⟨hl, q1⟩ => by
    obtain ⟨fp2, R2, c2⟩ := R1.setFz hl r1
    exact br.nx _ H1 _ fp2 R2 (c1.trans c2) q1⟩) only [bxI])
/-- a target by what it does with a value -/
abbrev DG (nf : NFs) := D → EV nf → (EV nf → Prop) → Prop
def liftG (K : PySem.W.Frag) (nf : NFs) [Anch nf] (js : List Nat) (g : DG nf) : TG := fun v σ H Q => ∃ d env fp Qd, Rel K nf H v d ∧ EnvR K nf H σ env fp ∧ g d env Qd ∧ ∀ σ' env' fp', wipe σ' js = wipe σ js → EnvR K nf H σ' env' fp' → Ch nf fp H fp' H → Qd env' → Q σ' H
theorem wipe_set1 (σ : St) (i : Nat) (v : Option V) : wipe (σ.set i v) [i] = wipe σ [i] := bxU (by simp (disch := with_unfolding_all
  show (σ.set i v).set i none = σ.set i none
  rw [List.set_set]) only [bxI])
theorem wipe_set_comm (σ : St) (i j : Nat) (a : Option V) : (σ.set i none).set j none = (σ.set j none).set i none := bxU (by simp (disch := with_unfolding_all
  by_cases h : i = j
  · subst h; rfl
  · exact List.set_comm _ _ h) only [bxI])
theorem wipe_app (σ : St) : ∀ (js ks : List Nat), wipe σ (js ++ ks) = wipe (wipe σ ks) js
  | [], _ => rfl
  | j :: js, ks => by show (wipe σ (js ++ ks)).set j none = (wipe (wipe σ ks) js).set j none; rw [wipe_app σ js ks]
theorem wipe_out (σ : St) (i : Nat) : ∀ (js : List Nat), wipe (σ.set i none) js = (wipe σ js).set i none
  | [] => rfl
  | j :: js => by
    show (wipe (σ.set i none) js).set j none = ((wipe σ js).set j none).set i none
    rw [wipe_out σ i js]
    exact wipe_set_comm _ _ _ none
theorem wipe_comm (σ : St) : ∀ (js ks : List Nat), wipe (wipe σ ks) js = wipe (wipe σ js) ks
  | [], _ => rfl
  | j :: js, ks => by
    show (wipe (wipe σ ks) js).set j none = wipe ((wipe σ js).set j none) ks
    rw [wipe_out, wipe_comm σ js ks]
theorem pg_imp {e : Expr} {t t' : TG} (h : PG X e t) (i : ∀ v σ H Q, t' v σ H Q → t v σ H Q) : PG X e t' := ⟨fun pins s σ H v u Q I r q => h.run pins s σ H v u Q I r (i v σ H Q q)⟩
variable (X nf) in
abbrev DGo (e : Expr) (js : List Nat) (g : DG nf) : Prop := PG X e (liftG X.K nf js g)
def gN (i : Nat) : DG nf := fun d env Q => i < env.length ∧ Q (env.set i (.fz d))
theorem dg_name {i : Nat} {x : Str} {pos : Pos} (hN : X.N.Nodup) (hi : X.N[i]? = some x) (hx : Loc X.env.scope x) (hf : X.fn x = true ∨ X.env.scope.names.lookup x = some .local := by first | exact .inl rfl | exact .inr rfl | assumption) : DGo X nf (.Name x pos) [i] (gN i) := bxU (by simp (disch := with_unfolding_all
  exact pg_imp (pg_name hN hi hx hf) fun v σ H Q ⟨d, env, fp, Qd, r, R, ⟨hl, q⟩, k⟩ => by
    obtain ⟨fp2, R2, c2⟩ := R.setFz hl r
    exact k _ _ fp2 (wipe_set1 σ i _) R2 c2 q) only [bxI])
abbrev DGs (nf : NFs) := List D → EV nf → (EV nf → Prop) → Prop
def liftGs (K : PySem.W.Frag) (nf : NFs) [Anch nf] (js : List Nat) (g : DGs nf) : TGs := fun vs σ H Q => ∃ ds env fp Qd, Rels K nf H vs ds ∧ EnvR K nf H σ env fp ∧ g ds env Qd ∧ ∀ σ' env' fp', wipe σ' js = wipe σ js → EnvR K nf H σ' env' fp' → Ch nf fp H fp' H → Qd env' → Q σ' H
theorem pgs_imp {es : List Expr} {t t' : TGs} (h : PGs X es t) (i : ∀ v σ H Q, t' v σ H Q → t v σ H Q) : PGs X es t' := ⟨fun pins s σ H v u Q I r q => h.run pins s σ H v u Q I r (i v σ H Q q)⟩
variable (X nf) in
abbrev DGos (es : List Expr) (js : List Nat) (g : DGs nf) : Prop := PGs X es (liftGs X.K nf js g)
def gsNil : DGs nf := fun ds env Q => ds = [] ∧ Q env
def gsCons (g : DG nf) (r : DGs nf) : DGs nf := fun ds env Q => ∃ d rs, ds = d :: rs ∧ g d env fun env1 => r rs env1 Q
theorem dgs_nil : DGos X nf [] [] gsNil := pgs_imp pgs_nil fun vs σ H Q ⟨ds, env, fp, Qd, r, R, ⟨e, q⟩, k⟩ => by
  subst e
  cases r
  exact ⟨rfl, k _ _ fp rfl R Ch.refl q⟩
theorem dgs_cons {e : Expr} {es : List Expr} {js ks : List Nat} {g : DG nf} {r : DGs nf} (h1 : DGo X nf e js g) (h2 : DGos X nf es ks r) (hs : (assignEach (e :: es) X.env).map (·.2) = assign e X.env :: (assignEach es X.env).map (·.2) := by rfl) : DGos X nf (e :: es) (js ++ ks) (gsCons g r) := bxU (by simp (disch := with_unfolding_all
  exact pgs_imp (pgs_cons h1 h2 hs) fun vs σ H Q ⟨ds, env, fp, Qd, rr, R, ⟨d, rs, e, q⟩, k⟩ => by
    subst e
    cases rr with
    | cons r1 r2 =>
      refine ⟨_, _, rfl, d, env, fp, _, r1, R, q, fun σ1 env1 fp1 w1 R1 c1 q1 => ?_⟩
      exact ⟨rs, env1, fp1, Qd, r2, R1, q1, fun σ2 env2 fp2 w2 R2 c2 q2 => k σ2 env2 fp2 (by rw [wipe_app, wipe_app, w2, wipe_comm, w1, wipe_comm]) R2 (c1.trans c2) q2⟩) only [bxI])
def gT (n : Nat) (g : DGs nf) : DG nf := fun d env Q => ∃ ds, d = .tup ds ∧ ds.length = n ∧ g ds env Q
theorem dg_tup {es : List Expr} {k : Nat} {js : List Nat} {g : DGs nf} {n : Nat} {pos : Pos} (hc : X.calm = true) (h : DGos X nf es js g) (hn : (assignEach es X.env).length = n := by rfl) (hst : (assignEach es X.env).findIdx? (·.1) = none := by rfl) : DGo X nf (.Tuple es k pos) js (gT n g) := bxU (by simp (disch := with_unfolding_all
  exact pg_imp (pg_tup hc h hn hst) fun v σ H Q ⟨d, env, fp, Qd, r, R, ⟨ds, e, hl, q⟩, k⟩ => by
    subst e
    cases r with
    | tup hs rr => exact ⟨_, _, rfl, hs, by rw [rr.length]; exact hl, ds, env, fp, Qd, rr, R, q, k⟩) only [bxI])
def sAsg (a : DT nf) (g : DG nf) : DTS nf := fun De env => a env fun d env1 => g d env1 De.nx
theorem ds_asg {tg e : Expr} {a : DT nf} {js : List Nat} {g : DG nf} {pos : Pos} (he : DE X nf e a) (hg : DGo X nf tg js g) (hs : swapsWithSole [tg] e pos.line X.env = pure false := by rfl) (hw : swappedStores [tg] e X.env = pure none := by rfl)
    (h1 : (assignEach [tg] X.env).map (·.2) = [assign tg X.env] := by rfl) : DS X nf (.Assign [tg] e pos) (sAsg a g) := ps_imp (ps_asg he hg hs hw h1) fun E σ H ⟨env, fp, De, R, q, br⟩ =>
  ⟨env, fp, _, R, q, fun v H1 d env1 fp1 r1 R1 c1 q1 => ⟨d, env1, fp1, _, r1, R1, q1, fun σ2 env2 fp2 _ R2 c2 q2 => br.nx σ2 H1 env2 fp2 R2 (c1.trans c2) q2⟩⟩
/-- a list of one's own that stands for xs -/
def lstA (K : PySem.W.Frag) (nf : NFs) (xs : List D) : OA nf where
  inv v fp H := ∃ p vs, v = .ref p ∧ fp = [p] ∧ H p = some (.lst vs) ∧ Rels K nf H vs xs
  frame := by
    rintro v fp H H' ⟨p, vs, e1, e2, hp, r⟩ k st
    subst e2
    exact ⟨p, vs, e1, rfl, by rw [k p (List.mem_singleton.mpr rfl)]; exact hp, r.mono st⟩
  trk := by
    rintro v fp H ⟨p, vs, e1, e2, hp, r⟩ a m
    subst e2
    rw [List.mem_singleton.mp m]
    exact ⟨_, hp, fun z => z, nofun, nofun⟩
  nd := by
    rintro v fp H ⟨p, vs, e1, e2, hp, r⟩
    subst e2
    simp
/-- x = [..], kept to be written -/
def sSetL (K : PySem.W.Frag) (i : Nat) (r : DAs nf) : DTS nf := fun De env => r env fun xs env1 => xs.length ≤ 1000000 ∧ i < env1.length ∧ ∀ p, De.nx (env1.set i (.ow (.ref p) (lstA K nf xs)))
theorem EnvR.setNew {H H' : Hp} {σ : St} {env : EV nf} {fp : List Addr} (R : EnvR K nf H σ env fp) {i : Nat} {v : V} {A : OA nf} {fi : List Addr} (hi : i < env.length) (x : Xt H H') (hA : A.inv v fi H') (hn : ∀ a ∈ fi, H a = none) :
    ∃ fp', EnvR K nf H' (σ.set i (some v)) (env.set i (.ow v A)) fp' ∧ Ch nf fp H fp' H' := bxU (by simp (disch := with_unfolding_all
  obtain ⟨o, f0, _, _, _, rep⟩ := R.at (i := i) (s := env[i]) (by simp [hi])
  obtain ⟨fp', R', sub⟩ := rep H' (some v) (.ow v A) fi ⟨rfl, hA⟩ (fun a u e _ => x a u e) (fun a m => .inr (hn a m)) x.stp
  exact R.rex R' (Ch.of (fun a u e _ => x a u e) R.1.pl (sub) ((x.ch (nf := nf) (fp := fp)).there))) only [bxI])
theorem ds_setL {i : Nat} {x : Str} {es : List Expr} {r : DAs nf} {pos pos' lpos : Pos} (hN : X.N.Nodup) (hi : X.N[i]? = some x) (hx : Loc X.env.scope x) (h : DA X nf es r) (hs : swapsWith (.List es lpos) (some (.Name x pos')) pos.line X.env = pure false := by rfl)
    (hf : X.fn x = true ∨ X.env.scope.names.lookup x = some .local := by first | exact .inl rfl | exact .inr rfl | assumption) : DS X nf (.Assign [.Name x pos'] (.List es lpos) pos) (sSetL X.K i r) := bxU (by simp (disch := with_unfolding_all
  exact ps_imp (ps_set hN hi hx (pe_lst h) hs hf) fun E σ H ⟨env, fp, De, R, q, br⟩ => ⟨env, fp, _, R, q, fun vs H1 ds env1 fp1 r1 R1 c1 ⟨hz, hl, q1⟩ => ⟨by rw [r1.length]; exact sz_ok hz, fun p hp => by
    have x : Xt H1 (upd H1 p (.lst vs)) := Xt.new hp
    obtain ⟨fp2, R2, c2⟩ := R1.setNew (i := i) (v := .ref p) (A := lstA X.K nf ds) (fi := [p]) hl x ⟨p, vs, rfl, rfl, upd_same, r1.mono x.stp⟩ (fun a m => by rw [List.mem_singleton.mp m]; exact hp)
    exact br.nx _ _ _ fp2 R2 (c1.trans c2) (q1 p)⟩⟩) only [bxI])
/-- changing the list that slot i owns -/
theorem EnvR.lstAt {H : Hp} {σ : St} {env : EV nf} {fp : List Addr} (R : EnvR K nf H σ env fp) {i : Nat} {v : V} {xs : List D} (e : env[i]? = some (.ow v (lstA K nf xs))) :
    ∃ p vs, v = .ref p ∧ σ[i]? = some (some (.ref p)) ∧ H p = some (.lst vs) ∧ Rels K nf H vs xs ∧
      ∀ vs' xs', Rels K nf H vs' xs' → ∃ fp', EnvR K nf (upd H p (.lst vs')) σ (env.set i (.ow v (lstA K nf xs'))) fp' ∧ Ch nf fp H fp' (upd H p (.lst vs')) := bxU (by simp (disch := with_unfolding_all
  obtain ⟨o, fi, e1, ⟨eo, p, vs, ev, ef, hp, r⟩, sub, rep⟩ := R.at e
  subst eo ev ef
  refine ⟨p, vs, rfl, e1, hp, r, fun vs' xs' r' => ?_⟩
  have st : Stp nf H (upd H p (.lst vs')) := fun a u h f => by
    by_cases ha : a = p
    · subst ha; rw [hp] at h; cases h; exact f.elim
    · rw [upd_ne ha]; exact h
  obtain ⟨fp', R', sub'⟩ := rep (upd H p (.lst vs')) (some (.ref p)) (.ow (.ref p) (lstA K nf xs')) [p] ⟨rfl, p, vs', rfl, rfl, upd_same, r'.mono st⟩ (fun a u h n => by
    rw [upd_ne (fun z => n (by rw [z]; exact List.mem_singleton.mpr rfl))]; exact h) (fun a m => .inl m) st
  have es : σ.set i (some (.ref p)) = σ := by
    obtain ⟨h1, h2⟩ := List.getElem?_eq_some_iff.mp e1
    rw [← h2]
    exact List.set_getElem_self h1
  rw [es] at R'
  refine R.rex R' (Ch.of (fun a u h n => ?_) R.1.pl (sub') (fun a h => ?_))
  · rw [upd_ne (fun z => n (by rw [z]; exact sub p (List.mem_singleton.mpr rfl)))]; exact h
  · by_cases ha : a = p
    · subst ha; rw [upd_same] at h; cases h
    · rw [upd_ne ha] at h; exact h) only [bxI])
/-- xs.append(e) -/
def sApp (K : PySem.W.Frag) (i : Nat) (a : DT nf) : DTS nf := fun De env => a env fun d env1 => ∃ v xs, env1[i]? = some (.ow v (lstA K nf xs)) ∧ xs.length < 1000000 ∧ De.nx (env1.set i (.ow v (lstA K nf (xs ++ [d]))))
theorem ds_app {i : Nat} {o e : Expr} {a : DT nf} {apos cpos pos : Pos} (ho : PE X o (tVar i)) (h : DE X nf e a)
    (hbase : attributeBase o "append" X.env (eval o X.env) = eval o X.env := by rfl)
    (hfew : ((backTo cpos (starEach [e] X.env)).all (fun x => !x.1) && (backToKw cpos (keywordEach [] X.env)).all (fun x => x.1.isSome) && decide (([e] : List Expr).length + ([] : List Keyword).length + (if ([] : List Keyword).isEmpty then 0 else 1) < 30)) = true := by rfl)
    (hline : (apos.endLine == cpos.line) = true := by rfl) (hst : starEach [e] X.env = (false, eval e X.env) :: starEach [] X.env := by rfl) (hplain : (backTo cpos (starEach [] X.env)).any (·.1) = false := by rfl)
    (hs : swapsWith (.Call (.Attribute o "append" apos) [e] [] cpos) none pos.line X.env = pure false := by rfl) : DS X nf (.Expr (.Call (.Attribute o "append" apos) [e] [] cpos) pos) (fun De env => (∃ v xs, env[i]? = some (.ow v (lstA X.K nf xs))) ∧ sApp X.K i a De env) := bxU (by simp (disch := with_unfolding_all
  exact ps_imp (ps_expr (pe_bm PySem.F.plainAttrs_list PySem.F.slot_list_append PySem.F.type_list_append mt_append ho (pa_cons h pa_nil hst) hbase hfew hline hst hplain) hs) fun E σ H ⟨env, fp, De, R, ⟨⟨v0, xs0, e0⟩, q⟩, br⟩ => by
    obtain ⟨p0, vs0, ev0, es0, hp0, _, _⟩ := R.lstAt e0
    subst ev0
    refine ⟨_, es0, Or.inl ⟨rfl, vs0, SqL.of hp0⟩, lift_run R q fun w H1 d env1 fp1 r1 R1 c1 ⟨v, xs, e1, hl, q1⟩ => ?_⟩
    obtain ⟨p, vs, ev, es, hp, rr, rep⟩ := R1.lstAt e1
    rw [es0] at es
    cases es
    obtain ⟨fp2, R2, c2⟩ := rep (vs ++ [w]) (xs ++ [d]) (rr.append (.cons r1 .nil))
    exact ⟨p0, vs, w, rfl, rfl, hp, by rw [rr.length]; exact Nat.lt_of_lt_of_le hl (by decide), br.nx σ _ _ fp2 R2 (c1.trans c2) q1⟩) only [bxI])
/-- the list of a slot, read as a value: frozen from here on -/
def dVarF (K : PySem.W.Frag) (i : Nat) : DT nf := fun env Q => ∃ v xs, env[i]? = some (.ow v (lstA K nf xs)) ∧ Q (.lst xs) (env.set i (.fz (.lst xs)))
theorem EnvR.fzAt {H : Hp} {σ : St} {env : EV nf} {fp : List Addr} (R : EnvR K nf H σ env fp) {i : Nat} {v : V} {xs : List D} (e : env[i]? = some (.ow v (lstA K nf xs))) :
    ∃ p vs, v = .ref p ∧ σ[i]? = some (some (.ref p)) ∧ H p = some (.lst vs) ∧
      ∀ o, Rel K nf (upd H p (.frz o (.lst vs))) (.ref p) (.lst xs) ∧ ∃ fp', EnvR K nf (upd H p (.frz o (.lst vs))) σ (env.set i (.fz (.lst xs))) fp' ∧ Ch nf fp H fp' (upd H p (.frz o (.lst vs))) := bxU (by simp (disch := with_unfolding_all
  obtain ⟨o, fi, e1, ⟨eo, p, vs, ev, ef, hp, r⟩, sub, rep⟩ := R.at e
  subst eo ev ef
  refine ⟨p, vs, rfl, e1, hp, fun o => ?_⟩
  have st : Stp nf H (upd H p (.frz o (.lst vs))) := fun a u h f => by
    by_cases ha : a = p
    · subst ha; rw [hp] at h; cases h; exact f.elim
    · rw [upd_ne ha]; exact h
  have rel : Rel K nf (upd H p (.frz o (.lst vs))) (.ref p) (.lst xs) := .lst ⟨o, upd_same⟩ (r.mono st)
  obtain ⟨fp', R', sub'⟩ := rep (upd H p (.frz o (.lst vs))) (some (.ref p)) (.fz (.lst xs)) [] ⟨rfl, _, rfl, rel⟩ (fun a u h n => by
    rw [upd_ne (fun z => n (by rw [z]; exact List.mem_singleton.mpr rfl))]; exact h) (fun a m => by cases m) st
  have es : σ.set i (some (.ref p)) = σ := by
    obtain ⟨h1, h2⟩ := List.getElem?_eq_some_iff.mp e1
    rw [← h2]
    exact List.set_getElem_self h1
  rw [es] at R'
  refine ⟨rel, R.rex R' (Ch.of (fun a u h n => ?_) R.1.pl (sub') (fun a h => ?_))⟩
  · rw [upd_ne (fun z => n (by rw [z]; exact sub p (List.mem_singleton.mpr rfl)))]; exact h
  · by_cases ha : a = p
    · subst ha; rw [upd_same] at h; cases h
    · rw [upd_ne ha] at h; exact h) only [bxI])
theorem de_varF {i : Nat} {e : Expr} (h : PE X e (tVar i)) : DE X nf e (dVarF X.K i) := pe_imp (pe_fz h) fun σ H Q ⟨env, fp, Qd, R, ⟨v, xs, e, q⟩, k⟩ => by
  obtain ⟨p, vs, ev, es, hp, f⟩ := R.fzAt e
  refine ⟨_, es, p, _, rfl, hp, trivial, fun o => ?_⟩
  obtain ⟨rel, fp', R', c⟩ := f o
  exact k _ _ _ _ fp' rel R' c q
end
end DL
namespace DL
open PySem L2
section
variable {X : Cx} {nf : NFs} [Anch nf] {K : PySem.W.Frag}
/-- the walk J, begun at H0, gives things that stand for ds, one by one, while all that is frozen stands -/
def WalkD (K : PySem.W.Frag) (nf : NFs) (J : It) (H0 : Hp) (ds : List D) : Prop :=
  ∃ G Y, Walk J ds.length G Y ∧ (∀ H, Stp nf H0 H → G H) ∧ ∀ i H x H2, i < ds.length → Stp nf H0 H → Y i H x H2 → Xt H H2 ∧ ∃ d, ds[i]? = some d ∧ Rel K nf H2 x d
def liftI (K : PySem.W.Frag) (nf : NFs) [Anch nf] (di : DAs nf) : TI := fun σ H R => ∃ env fp Qd, EnvR K nf H σ env fp ∧ di env Qd ∧ ∀ J ds H' env' fp', WalkD K nf J H' ds → EnvR K nf H' σ env' fp' → Ch nf fp H fp' H' → Qd ds env' → R J H'
theorem pi_imp {tg e : Expr} {t t' : TI} (h : PI X tg e t) (i : ∀ σ H Q, t' σ H Q → t σ H Q) : PI X tg e t' := ⟨fun pins s σ H Q I q => h.run pins s σ H Q I (i σ H Q q)⟩
variable (X nf) in
abbrev DIo (tg e : Expr) (di : DAs nf) : Prop := PI X tg e (liftI X.K nf di)
def lsOf : D → Option (List D)
  | .lst xs => some xs
  | .scr ns => some (ns.map .int)
  | _ => none
theorem ints_rels {H : Hp} : ∀ (ns : List Int), Rels K nf H (ns.map V.int) (ns.map D.int)
  | [] => .nil
  | n :: ns => .cons (.int n) (ints_rels ns)
theorem ls_of {H : Hp} {v : V} {d : D} {xs : List D} (r : Rel K nf H v d) (e : lsOf d = some xs) : ∃ a vs, v = .ref a ∧ SqL K H a vs ∧ (∀ H', Stp nf H H' → SqL K H' a vs) ∧ Rels K nf H vs xs := bxU (by simp (disch := with_unfolding_all
  cases r <;> simp only [lsOf] at e <;> try cases e
  · rename_i hl rr
    exact ⟨_, _, rfl, hl.sq, fun _ s => (hl.mono s).sq, rr⟩
  · rename_i h
    exact ⟨_, _, rfl, h.sq, fun _ s => (h.mono s).sq, ints_rels _⟩) only [bxI])
def iL (da : DT nf) : DAs nf := fun env Q => da env fun d env1 => ∃ xs, lsOf d = some xs ∧ Q xs env1
theorem di_list {tg l : Expr} {da : DT nf} (h : DE X nf l da) : DIo X nf tg l (iL da) := bxU (by simp (disch := with_unfolding_all
  exact pi_imp (pi_list h) fun σ H R ⟨env, fp, Qd, R0, q, k⟩ =>
  lift_run R0 q fun v H1 d env1 fp1 r1 R1 c1 ⟨xs, e, q1⟩ => by
    obtain ⟨a, vs, ev, hl, hs, rr⟩ := ls_of r1 e
    subst ev
    refine ⟨a, rfl, ⟨vs, hl⟩, k _ xs H1 env1 fp1 ⟨_, _, rr.length ▸ walk_list (xs := vs), fun H s => hs H s, fun i H x H2 hi s ⟨e2, y⟩ => ?_⟩ R1 c1 q1⟩
    subst e2
    obtain ⟨d, e3, r3⟩ := rr.getV y
    exact ⟨Xt.refl, d, e3, r3.mono s⟩) only [bxI])
def iT (da : DT nf) : DAs nf := fun env Q => da env fun d env1 => ∃ xs, d = .tup xs ∧ Q xs env1
theorem di_tup {tg l : Expr} {da : DT nf} (h : DE X nf l da) : DIo X nf tg l (iT da) := bxU (by simp (disch := with_unfolding_all
  exact pi_imp (pi_tup h) fun σ H R ⟨env, fp, Qd, R0, q, k⟩ =>
  lift_run R0 q fun v H1 d env1 fp1 r1 R1 c1 ⟨xs, e, q1⟩ => by
    subst e
    cases r1 with
    | @tup a vs _ hl rr =>
      refine ⟨a, rfl, ⟨vs, hl⟩, k _ xs H1 env1 fp1 ⟨_, _, rr.length ▸ walk_tup (xs := vs), fun H s => sqT_mono s hl, fun i H x H2 hi s ⟨e2, y⟩ => ?_⟩ R1 c1 q1⟩
      subst e2
      obtain ⟨d, e3, r3⟩ := rr.getV y
      exact ⟨Xt.refl, d, e3, r3.mono s⟩) only [bxI])
/-- lo, lo + 1, .. -/
def rangeD (lo : Int) (n : Nat) : List D := (List.range n).map fun i => .int (lo + (i : Nat))
theorem walk_rangeD (lo : Int) (n : Nat) (H0 : Hp) : WalkD K nf (Itr lo n) H0 (rangeD lo n) := by
  have e : (rangeD lo n).length = n := by simp [rangeD]
  refine ⟨fun _ => True, YFn fun i => .int (lo + i), by rw [e]; exact walk_range, fun _ _ => trivial, fun i H x H2 hi s ⟨e2, y⟩ => ?_⟩
  subst e2 y
  refine ⟨Xt.refl, .int (lo + i), ?_, .int _⟩
  rw [e] at hi
  simp [rangeD, hi]
def iR1 (r : DAs nf) : DAs nf := fun env Q => r env fun ds env1 => ∃ n : Int, ds = [.int n] ∧ (-(2 ^ 62) ≤ n ∧ n < 2 ^ 62) ∧ Q (rangeD 0 n.toNat) env1
theorem rels1 {H : Hp} {vs : List V} {n : Int} (r : Rels K nf H vs [.int n]) : vs = [.int n] := bxU (by simp (disch := with_unfolding_all
  cases r with
  | cons h t => cases t; cases h; rfl) only [bxI])
theorem di_range1 {tg a : Expr} {r : DAs nf} {p pos : Pos} (hg : Gl X "range") (hm : X.mg "range" = none) (ha : DA X nf [a] r) (hs : starEach [a] X.env = [(false, eval a X.env)] := by rfl) : DIo X nf tg (.Call (.Name "range" p) [a] [] pos) (iR1 r) := bxU (by simp (disch := with_unfolding_all
  exact pi_imp (pi_range1 hg hm ha hs) fun σ H R ⟨env, fp, Qd, R0, q, k⟩ => ⟨env, fp, _, R0, q, fun vs H1 ds env1 fp1 r1 R1 c1 ⟨n, e, hb, q1⟩ => by
    subst e
    exact ⟨n, rels1 r1, hb.1, hb.2, k _ _ H1 env1 fp1 (walk_rangeD 0 n.toNat H1) R1 c1 q1⟩⟩) only [bxI])
/-- the signs of a text, each a text -/
def signsD (z : Str) : List D := z.cps.toList.map fun c => .str ⟨#[c]⟩
def iS (da : DT nf) : DAs nf := fun env Q => da env fun d env1 => ∃ z, d = .str z ∧ Q (signsD z) env1
theorem di_str {tg l : Expr} {da : DT nf} (h : DE X nf l da) : DIo X nf tg l (iS da) := bxU (by simp (disch := with_unfolding_all
  exact pi_imp (pi_str h) fun σ H R ⟨env, fp, Qd, R0, q, k⟩ =>
  lift_run R0 q fun v H1 d env1 fp1 r1 R1 c1 ⟨z, e, q1⟩ => by
    subst e
    cases r1
    have e : (signsD z).length = z.cps.size := by simp [signsD]
    refine ⟨z, rfl, k _ _ H1 env1 fp1 ⟨_, _, e ▸ walk_str (z := z), fun _ _ => trivial, fun i H x H2 hi s ⟨e2, c, hc, y⟩ => ?_⟩ R1 c1 q1⟩
    subst e2 y
    refine ⟨Xt.refl, .str ⟨#[c]⟩, ?_, .str _⟩
    simp [signsD, hc]) only [bxI])
theorem RelK.length : ∀ {H : Hp} {vs : List (Key × V)} {ds : List (Key × D)}, RelK K nf H vs ds → vs.length = ds.length
  | _, _, _, .nil => rfl
  | _, _, _, .cons _ r => by rw [List.length_cons, List.length_cons, RelK.length r]
theorem RelK.getV : ∀ {H : Hp} {vs : List (Key × V)} {ds : List (Key × D)} {i : Nat} {k : Key} {v : V}, RelK K nf H vs ds → vs[i]? = some (k, v) → ∃ d, ds[i]? = some (k, d) ∧ Rel K nf H v d
  | _, _, _, _, _, _, .nil, e => by simp at e
  | _, _, _, 0, _, _, .cons h _, e => by simp at e; obtain ⟨rfl, rfl⟩ := e; exact ⟨_, rfl, h⟩
  | _, _, _, i + 1, k, v, .cons _ r, e => by
    obtain ⟨d, h1, h2⟩ := RelK.getV (i := i) (k := k) (v := v) r (by simpa using e)
    exact ⟨d, by simpa using h1, h2⟩
def dFor (g : DG nf) (b : DTS nf) : List D → DTS nf
  | [], De, env => De.nx env
  | x :: xs, De, env => g x env fun env1 => b { De with nx := dFor g b xs De, ct := dFor g b xs De, bk := De.nx } env1
def sFor (di : DAs nf) (g : DG nf) (b : DTS nf) : DTS nf := fun De env => di env fun ds env1 => dFor g b ds De env1
theorem drop_cons {α : Type} {xs : List α} {i : Nat} {x : α} (h : xs[i]? = some x) : xs.drop i = x :: xs.drop (i + 1) := bxU (by simp (disch := with_unfolding_all
  obtain ⟨h1, h2⟩ := List.getElem?_eq_some_iff.mp h
  rw [← h2]
  exact List.drop_eq_getElem_cons h1) only [bxI])
theorem ds_for {tg iter : Expr} {body : List Stmt} {pos : Pos} {di : DAs nf} {js : List Nat} {g : DG nf} {b : DTS nf} (hp : PassesOwn (model X.prog X.w) X.A X.env X.xe) (hc : X.calm = true) (hi : DIo X nf tg iter di) (hg : DGo X nf tg js g) (hb : DSs X nf body b)
    (hs : ∀ x, foldedSetIterable iter X.env x = pure x := by intro _; rfl) : DS X nf (.For tg iter body [] pos) (sFor di g b) := bxU (by simp (disch := with_unfolding_all
  exact ps_imp (ps_for hp hc hi hg hb hs) fun E σ H ⟨env, fp, De, R, q, br⟩ =>
  ⟨env, fp, _, R, q, fun J ds H1 env1 fp1 ⟨G, Y, w, hG, hY⟩ R1 c1 q1 => by
    refine for_it w (fun i σ' H' => ∃ env' fp', EnvR X.K nf H' σ' env' fp' ∧ Ch nf fp1 H1 fp' H' ∧ dFor g b (ds.drop i) De env') ⟨env1, fp1, R1, Ch.refl, q1⟩ (fun i σ' H' _ ⟨env', fp', R', c', _⟩ => hG H' (c'.stp R1)) (fun i x σ' H' H2 hi ⟨env', fp', R', c', q'⟩ y => ?_) fun σ' H' ⟨env', fp', R', c', q'⟩ => ?_
    · obtain ⟨xt, d, ed, r⟩ := hY i H' x H2 hi (c'.stp R1) y
      rw [drop_cons ed] at q'
      refine ⟨d, env', fp', _, r, R'.ext xt, q', fun σ2 env2 fp2 _ R2 c2 q2 => ?_⟩
      have c3 := (c'.trans xt.ch).trans c2
      refine ⟨env2, fp2, _, R2, q2, ⟨fun σ3 H3 env3 fp3 R3 cc q3 => ⟨env3, fp3, R3, c3.trans cc, q3⟩, fun v d σ3 H3 env3 fp3 r3 R3 cc q3 => br.rt v d σ3 H3 env3 fp3 r3 R3 (c1.trans (c3.trans cc)) q3, fun σ3 H3 env3 fp3 R3 cc q3 => br.nx σ3 H3 env3 fp3 R3 (c1.trans (c3.trans cc)) q3, fun σ3 H3 env3 fp3 R3 cc q3 => ⟨env3, fp3, R3, c3.trans cc, q3⟩, fun v A σ3 H3 env3 fp3 fi i3 R3 n3 cc q3 => br.ro v A σ3 H3 env3 fp3 fi i3 R3 n3 (c1.trans (c3.trans cc)) q3⟩⟩
    · rw [List.drop_length] at q'
      exact br.nx σ' H' env' fp' R' (c1.trans c') q'⟩) only [bxI])
def wipeD (env : EV nf) : List Nat → EV nf
  | [] => env
  | j :: js => (wipeD env js).set j .un
theorem EnvR.forget {H : Hp} {σ : St} {env : EV nf} {fp : List Addr} (R : EnvR K nf H σ env fp) (o : Option V) (i : Nat) : ∃ fp', EnvR K nf H (σ.set i o) (env.set i .un) fp' ∧ Ch nf fp H fp' H := bxU (by simp (disch := with_unfolding_all
  by_cases hi : i < env.length
  · obtain ⟨_, fi, _, _, _, rep⟩ := R.at (i := i) (s := env[i]) (by simp [hi])
    obtain ⟨fp', R', sub⟩ := rep H o .un [] rfl (fun a u e _ => e) (fun a m => by cases m) Stp.refl
    exact R.rex R' (Ch.of (fun a u e _ => e) R.1.pl (sub) (fun a e => e))
  · rw [List.set_eq_of_length_le (by have := R.length; omega), List.set_eq_of_length_le (by have := R.length; omega)]
    exact ⟨fp, R, Ch.refl⟩) only [bxI])
theorem EnvR.wipe {H : Hp} {σ : St} {env : EV nf} {fp : List Addr} (R : EnvR K nf H σ env fp) : ∀ js : List Nat, ∃ fp', EnvR K nf H (L2.wipe σ js) (wipeD env js) fp' ∧ Ch nf fp H fp' H
  | [] => ⟨fp, R, Ch.refl⟩
  | j :: js => by
    obtain ⟨fp1, R1, c1⟩ := EnvR.wipe R js
    obtain ⟨fp2, R2, c2⟩ := R1.forget none j
    exact ⟨fp2, R2, c1.trans c2⟩
theorem EnvL.noset {H : Hp} {σ : St} {env : EV nf} {fp : List Addr} (R : EnvL K nf H σ env fp) (o : Option V) (i : Nat) (h : env[i]? = some .un ∨ env.length ≤ i) : EnvL K nf H (σ.set i o) env fp := bxU (by simp (disch := with_unfolding_all
  induction R generalizing i with
  | nil => exact .nil
  | @cons o1 σ1 s env1 fp1 fq hs he hd ih =>
    cases i with
    | zero =>
      rcases h with h | h
      · simp at h
        subst h
        have e : fp1 = [] := hs
        exact .cons (show SlotR K nf H o fp1 .un from e) he hd
      · simp at h
    | succ i => exact .cons hs (ih i (by simpa using h)) hd) only [bxI])
theorem EnvR.noset {H : Hp} {σ : St} {env : EV nf} {fp : List Addr} (R : EnvR K nf H σ env fp) (o : Option V) (i : Nat) (h : env[i]? = some .un ∨ env.length ≤ i) : EnvR K nf H (σ.set i o) env fp := ⟨R.1.noset o i h, R.2⟩
/-- slots that are forgotten may hold anything -/
theorem EnvR.unwipe {H : Hp} {σ σ' : St} {env : EV nf} {fp : List Addr} : ∀ (js : List Nat), EnvR K nf H σ env fp → L2.wipe σ' js = L2.wipe σ js → (∀ j ∈ js, env[j]? = some .un ∨ env.length ≤ j) → EnvR K nf H σ' env fp := bxU (by simp (disch := with_unfolding_all
  intro js R e hu
  have all : ∀ (js : List Nat), (∀ j ∈ js, env[j]? = some .un ∨ env.length ≤ j) → ∀ σ1 : St, EnvR K nf H σ1 env fp → EnvR K nf H (L2.wipe σ1 js) env fp := by
    intro js
    induction js with
    | nil => intro _ σ1 R1; exact R1
    | cons j js ih => intro h σ1 R1; exact (ih (fun k m => h k (List.mem_cons_of_mem _ m)) σ1 R1).noset none j (h j List.mem_cons_self)
  have back : ∀ (js : List Nat), (∀ j ∈ js, env[j]? = some .un ∨ env.length ≤ j) → ∀ σ1 : St, EnvR K nf H (L2.wipe σ1 js) env fp → EnvR K nf H σ1 env fp := by
    intro js
    induction js with
    | nil => intro _ σ1 R1; exact R1
    | cons j js ih =>
      intro h σ1 R1
      refine ih (fun k m => h k (List.mem_cons_of_mem _ m)) σ1 ?_
      have R2 : EnvR K nf H ((L2.wipe σ1 js).set j none) env fp := R1
      by_cases hj : j < (L2.wipe σ1 js).length
      · have R3 := R2.noset ((L2.wipe σ1 js)[j]) j (h j List.mem_cons_self)
        rw [List.set_set, List.set_getElem_self hj] at R3
        exact R3
      · rw [List.set_eq_of_length_le (by omega)] at R2
        exact R2
  exact back js hu σ' (e ▸ all js hu σ R)) only [bxI])
theorem wipeD_un (env : EV nf) : ∀ (js : List Nat), ∀ j ∈ js, (wipeD env js)[j]? = some .un ∨ (wipeD env js).length ≤ j
  | [], _, m => by cases m
  | k :: js, j, m => by
    show ((wipeD env js).set k .un)[j]? = some .un ∨ ((wipeD env js).set k .un).length ≤ j
    rw [List.length_set]
    by_cases hk : k = j
    · subst hk
      by_cases hl : k < (wipeD env js).length
      · exact .inl (List.getElem?_set_self hl)
      · exact .inr (by omega)
    · rcases List.mem_cons.mp m with e | m
      · exact absurd e.symm hk
      · rw [List.getElem?_set_ne hk]
        exact wipeD_un env js j m
def dComp (g : DG nf) (dt : DB nf) (de : DT nf) (js : List Nat) : List D → List D → EV nf → (List D → EV nf → Prop) → Prop
  | [], acc, env, Q => Q acc env
  | x :: xs, acc, env, Q => g x env fun env1 => dt env1 fun b env2 => if b = true then de env2 fun d env3 => acc.length < 1000000 ∧ dComp g dt de js xs (acc ++ [d]) (wipeD env3 js) Q else dComp g dt de js xs acc (wipeD env2 js) Q
def dYes : DB nf := fun env Q => Q true env
def dLc (di : DAs nf) (g : DG nf) (dt : DB nf) (de : DT nf) (js : List Nat) : DT nf := fun env Q => di env fun ds env1 => dComp g dt de js ds [] (wipeD env1 js) fun acc env2 => Q (.lst acc) env2
/-- the reading of a comprehension; Qe: what is wanted of the new list (not frozen yet) -/
theorem lift_lc {di : DAs nf} {g : DG nf} {dt : DB nf} {de : DT nf} {js : List Nat} {σ : St} {H : Hp} {Q : VK} {env : EV nf} {fp : List Addr} {Qd : List D → EV nf → Prop} (R : EnvR K nf H σ env fp)
    (h : di env fun ds env1 => dComp g dt de js ds [] (wipeD env1 js) Qd)
    (k : ∀ p vs H' ds env' fp', H p = none → H' p = some (.lst vs) → p ∉ fp' → Rels K nf H' vs ds → EnvR K nf H' σ env' fp' → Ch nf fp H fp' H' → Qd ds env' → Q (.ref p) H') :
    tLc (liftI K nf di) (liftG K nf js g) (liftB K nf dt) (lift K nf de) js σ H Q := by
  refine ⟨env, fp, _, R, h, fun J ds H1 env1 fp1 ⟨G, Y, w, hG, hY⟩ R1 c1 q1 => fun Dl hD => ?_⟩
  obtain ⟨fpw, Rw, cw⟩ := R1.wipe js
  have x0 : Xt H1 (upd H1 Dl (.lst [])) := Xt.new hD
  refine lc_it w (fun i H' => ∃ env' fp' vs acc, EnvR K nf H' (L2.wipe σ js) env' fp' ∧ Ch nf fp1 H1 fp' H' ∧ Dl ∉ fp' ∧ H' Dl = some (.lst vs) ∧ Rels K nf H' vs acc ∧ (∀ j ∈ js, env'[j]? = some .un ∨ env'.length ≤ j) ∧ dComp g dt de js (ds.drop i) acc env' Qd)
    ⟨_, fpw, [], [], Rw.ext x0, cw.trans x0.ch, (fun m => by obtain ⟨u, e, _⟩ := Rw.trk Dl m; rw [hD] at e; cases e), upd_same, .nil, wipeD_un env1 js, q1⟩
    (fun i H' _ ⟨env', fp', _, _, R', c', _⟩ => hG H' (c'.stp R1)) (fun i x H' H2 hi ⟨env', fp', vs, acc, R', c', nD, hDl, rr, hu, q'⟩ y => ?_) fun H' ⟨env', fp', vs, acc, R', c', nD, hDl, rr, hu, q'⟩ => ?_
  · obtain ⟨xt, d, ed, r⟩ := hY i H' x H2 hi (c'.stp R1) y
    rw [drop_cons ed] at q'
    refine ⟨d, env', fp', _, r, R'.ext xt, q', fun σ2 env2 fp2 hw R2 c2 q2 => ⟨by rw [hw]; exact wipe_wipe σ js, ?_⟩⟩
    have c3 := (c'.trans xt.ch).trans c2
    have nD2 : Dl ∉ fp2 := fun m => by
      rcases (xt.ch.trans c2).sub Dl m with z | z
      · exact nD z
      · rw [hDl] at z; cases z
    have hD2 : H2 Dl = some (.lst vs) := xt _ _ hDl
    refine ⟨env2, fp2, _, R2, q2, fun b H3 env3 fp3 R3 c4 q3 => ?_⟩
    have nD3 : Dl ∉ fp3 := fun m => by
      rcases c4.sub Dl m with z | z
      · exact nD2 z
      · rw [hD2] at z; cases z
    have hD3 : H3 Dl = some (.lst vs) := c4.keep _ _ hD2 nD2 nofun
    have st3 : Stp nf H' H3 := xt.stp.trans (c4.stp R2)
    cases b with
    | true =>
      show lift K nf de σ2 H3 _
      refine lift_run R3 q3 fun v H4 d4 env4 fp4 r4 R4 c5 ⟨hlen, q4⟩ => ?_
      have nD4 : Dl ∉ fp4 := fun m => by
        rcases c5.sub Dl m with z | z
        · exact nD3 z
        · rw [hD3] at z; cases z
      have hD4 : H4 Dl = some (.lst vs) := c5.keep _ _ hD3 nD3 nofun
      have rr4 : Rels K nf H4 vs acc := rr.mono (st3.trans (c5.stp R3))
      obtain ⟨fp5, R5, c6⟩ := R4.wipe js
      have nD5 : Dl ∉ fp5 := fun m => by
        rcases c6.sub Dl m with z | z
        · exact nD4 z
        · rw [hD4] at z; cases z
      have st5 : Stp nf H4 (upd H4 Dl (.lst (vs ++ [v]))) := fun a u e f => by
        by_cases ha : a = Dl
        · subst ha; rw [hD4] at e; cases e; exact f.elim
        · rw [upd_ne ha]; exact e
      have R6 := R5.frame (H' := upd H4 Dl (.lst (vs ++ [v]))) (fun a m => upd_ne fun z => nD5 (z ▸ m)) st5 R1.2 ((((c3.trans c4).trans c5).trans c6).put hD hD4 pl_lst)
      have hw' : L2.wipe σ2 js = L2.wipe σ js := by rw [hw]; exact wipe_wipe σ js
      rw [hw'] at R6
      refine ⟨vs, hD4, by rw [rr4.length]; exact Nat.lt_of_lt_of_le hlen (by decide), _, fp5, vs ++ [v], acc ++ [d4], R6, ?_, nD5, upd_same, (rr4.append (.cons r4 .nil)).mono st5, wipeD_un _ _, q4⟩
      have cc := ((c3.trans c4).trans c5).trans c6
      exact cc.put hD hD4 pl_lst
    | false =>
      obtain ⟨fp5, R5, c6⟩ := R3.wipe js
      have hw' : L2.wipe σ2 js = L2.wipe σ js := by rw [hw]; exact wipe_wipe σ js
      rw [hw'] at R5
      refine ⟨_, fp5, vs, acc, R5, (c3.trans c4).trans c6, fun m => ?_, hD3, rr.mono st3, wipeD_un _ _, q3⟩
      rcases c6.sub Dl m with z | z
      · exact nD3 z
      · rw [hD3] at z; cases z
  · rw [List.drop_length] at q'
    have R7 : EnvR K nf H' σ env' fp' := EnvR.unwipe js R' (wipe_wipe σ js).symm hu
    have hDn : H Dl = none := c1.there Dl hD
    exact k Dl vs H' acc env' fp' hDn hDl nD rr R7 (c1.trans c') q'
where
  wipe_wipe (σ : St) : ∀ js : List Nat, L2.wipe (L2.wipe σ js) js = L2.wipe σ js
    | [] => rfl
    | j :: js => by
      show (L2.wipe ((L2.wipe σ js).set j none) js).set j none = (L2.wipe σ js).set j none
      rw [wipe_out, List.set_set, wipe_wipe σ js]
end
end DL
namespace DL
open PySem L2
section
variable {X : Cx} {nf : NFs} [Anch nf] {K : PySem.W.Frag}
structure EnvF (K : PySem.W.Frag) (nf : NFs) (H : Hp) (σ : St) (env : EV nf) (f : Nat → List Addr) : Prop where
  len : σ.length = env.length
  slot : ∀ i s, env[i]? = some s → ∃ o, σ[i]? = some o ∧ SlotR K nf H o (f i) s
  apart : ∀ i j, i < env.length → j < env.length → i ≠ j → ∀ a ∈ f i, a ∉ f j
theorem EnvL.toF {H : Hp} {σ : St} {env : EV nf} {fp : List Addr} (R : EnvL K nf H σ env fp) : ∃ f, EnvF K nf H σ env f ∧ ∀ a, a ∈ fp ↔ ∃ i, i < env.length ∧ a ∈ f i := bxU (by simp (disch := with_unfolding_all
  induction R with
  | nil => exact ⟨fun _ => [], ⟨rfl, fun i s e => (by simp at e), fun i j h => (by simp at h)⟩, fun a => ⟨fun m => (by cases m), fun ⟨i, h, _⟩ => (by simp at h)⟩⟩
  | @cons o σ s env fp fq hs he hd ih =>
    obtain ⟨f, F, hm⟩ := ih
    refine ⟨fun i => match i with | 0 => fp | i + 1 => f i, ⟨by simp [F.len], fun i s' e => ?_, fun i j hi hj hij a ha => ?_⟩, fun a => ⟨fun m => ?_, fun ⟨i, hi, m⟩ => ?_⟩⟩
    · cases i with
      | zero => simp at e; subst e; exact ⟨o, rfl, hs⟩
      | succ i => exact F.slot i s' (by simpa using e)
    · cases i with
      | zero =>
        cases j with
        | zero => exact absurd rfl hij
        | succ j => exact fun z => hd a ha ((hm a).mpr ⟨j, by simpa using hj, z⟩)
      | succ i =>
        cases j with
        | zero => exact fun z => hd a z ((hm a).mpr ⟨i, by simpa using hi, ha⟩)
        | succ j => exact F.apart i j (by simpa using hi) (by simpa using hj) (fun e => hij (by rw [e])) a ha
    · rcases List.mem_append.mp m with m | m
      · exact ⟨0, by simp, m⟩
      · obtain ⟨i, hi, mi⟩ := (hm a).mp m
        exact ⟨i + 1, by simp; omega, mi⟩
    · cases i with
      | zero => exact List.mem_append_left _ m
      | succ i => exact List.mem_append_right _ ((hm a).mpr ⟨i, by simpa using hi, m⟩)) only [bxI])
theorem EnvF.toR : ∀ {H : Hp} {σ : St} {env : EV nf} {f : Nat → List Addr}, EnvF K nf H σ env f → ∃ fp, EnvL K nf H σ env fp ∧ ∀ a, a ∈ fp ↔ ∃ i, i < env.length ∧ a ∈ f i
  | _, [], [], _, _ => ⟨[], .nil, fun a => ⟨fun m => (by cases m), fun ⟨i, h, _⟩ => (by simp at h)⟩⟩
  | _, [], _ :: _, _, F => by have := F.len; simp at this
  | _, _ :: _, [], _, F => by have := F.len; simp at this
  | H, o :: σ, s :: env, f, F => by
    obtain ⟨fq, R, hm⟩ := EnvF.toR (H := H) (σ := σ) (env := env) (f := fun i => f (i + 1)) ⟨by have := F.len; simpa using this, fun i s' e => by
      obtain ⟨o', e', h'⟩ := F.slot (i + 1) s' (by simpa using e)
      exact ⟨o', by simpa using e', h'⟩, fun i j hi hj hij a ha => F.apart (i + 1) (j + 1) (by simp; omega) (by simp; omega) (by omega) a ha⟩
    obtain ⟨o', e', h'⟩ := F.slot 0 s rfl
    simp at e'
    subst e'
    refine ⟨f 0 ++ fq, .cons h' R fun a ha hq => ?_, fun a => ⟨fun m => ?_, fun ⟨i, hi, m⟩ => ?_⟩⟩
    · obtain ⟨i, hi, mi⟩ := (hm a).mp hq
      exact F.apart 0 (i + 1) (by simp) (by simp; omega) (by omega) a ha mi
    · rcases List.mem_append.mp m with m | m
      · exact ⟨0, by simp, m⟩
      · obtain ⟨i, hi, mi⟩ := (hm a).mp m
        exact ⟨i + 1, by simp; omega, mi⟩
    · cases i with
      | zero => exact List.mem_append_left _ m
      | succ i => exact List.mem_append_right _ ((hm a).mpr ⟨i, by simpa using hi, m⟩)
inductive AD where
  | v (d : D) | o (i : Nat)
def resolve (env : EV nf) : AD → SD nf
  | .v d => .fz d
  | .o i => (env[i]?).getD .un
def slotsOf : List AD → List Nat
  | [] => []
  | .v _ :: r => slotsOf r
  | .o i :: r => i :: slotsOf r
def putBack : EV nf → List AD → List (SD nf) → EV nf
  | env, [], _ => env
  | env, _ :: _, [] => env
  | env, .v _ :: r, _ :: as => putBack env r as
  | env, .o i :: r, s :: as => putBack (env.set i s) r as
theorem putBack_len : ∀ (env : EV nf) (ads : List AD) (as : List (SD nf)), (putBack env ads as).length = env.length
  | env, [], _ => by simp only [putBack]
  | env, _ :: _, [] => by simp only [putBack]
  | env, .v _ :: r, _ :: as => by simp only [putBack]; exact putBack_len env r as
  | env, .o i :: r, s :: as => by simp only [putBack]; rw [putBack_len, List.length_set]
/-- what stands at i behind it: the argument's new state, or what stood -/
theorem putBack_get : ∀ (env : EV nf) (ads : List AD) (as : List (SD nf)) (i : Nat) (s : SD nf), ads.length = as.length → (slotsOf ads).Nodup → (putBack env ads as)[i]? = some s →
    (i ∉ slotsOf ads ∧ env[i]? = some s) ∨ ∃ k : Nat, ads[k]? = some (.o i) ∧ as[k]? = some s
  | env, [], _, i, s, _, _, e => by simp only [putBack] at e; exact .inl ⟨(fun m => by cases m), e⟩
  | env, a :: r, [], i, s, hl, _, e => by simp at hl
  | env, .v d :: r, _ :: as, i, s, hl, nd, e => by
    simp only [putBack] at e
    rcases putBack_get env r as i s (by simpa using hl) nd e with h | ⟨k, h1, h2⟩
    · exact .inl h
    · exact .inr ⟨k + 1, by simpa using h1, by simpa using h2⟩
  | env, .o j :: r, s0 :: as, i, s, hl, nd, e => by
    have nd' : (j :: slotsOf r).Nodup := nd
    simp only [putBack] at e
    rcases putBack_get (env.set j s0) r as i s (by simpa using hl) (List.nodup_cons.mp nd').2 e with ⟨h1, h2⟩ | ⟨k, h1, h2⟩
    · by_cases hj : j = i
      · subst hj
        by_cases hl2 : j < env.length
        · rw [List.getElem?_set_self hl2] at h2
          exact .inr ⟨0, rfl, by simpa using h2⟩
        · rw [List.getElem?_eq_none (by simpa using hl2)] at h2
          cases h2
      · rw [List.getElem?_set_ne hj] at h2
        refine .inl ⟨fun m => ?_, h2⟩
        rcases List.mem_cons.mp (show i ∈ j :: slotsOf r from m) with z | z
        · exact hj z.symm
        · exact h1 z
    · exact .inr ⟨k + 1, by simpa using h1, by simpa using h2⟩
inductive ArgsM (K : PySem.W.Frag) (nf : NFs) (H : Hp) (σ : St) : List V → List AD → Prop
  | nil : ArgsM K nf H σ [] []
  | val {v : V} {d : D} {vs ads} : Rel K nf H v d → ArgsM K nf H σ vs ads → ArgsM K nf H σ (v :: vs) (.v d :: ads)
  | slot {v : V} {i : Nat} {vs ads} : σ[i]? = some (some v) → ArgsM K nf H σ vs ads → ArgsM K nf H σ (v :: vs) (.o i :: ads)
theorem ArgsM.mono {H H' : Hp} {σ : St} (e : Stp nf H H') : ∀ {vs : List V} {ads : List AD}, ArgsM K nf H σ vs ads → ArgsM K nf H' σ vs ads
  | _, _, .nil => .nil
  | _, _, .val h r => .val (h.mono e) (r.mono e)
  | _, _, .slot h r => .slot h (r.mono e)
theorem ArgsM.len {H : Hp} {σ : St} : ∀ {vs : List V} {ads : List AD}, ArgsM K nf H σ vs ads → vs.length = ads.length
  | _, _, .nil => rfl
  | _, _, .val _ r => by rw [List.length_cons, List.length_cons, ArgsM.len r]
  | _, _, .slot _ r => by rw [List.length_cons, List.length_cons, ArgsM.len r]
theorem ArgsM.get {H : Hp} {σ : St} : ∀ {vs : List V} {ads : List AD} {k : Nat} {ad : AD}, ArgsM K nf H σ vs ads → ads[k]? = some ad → ∃ v, vs[k]? = some v ∧ match ad with | .v d => Rel K nf H v d | .o i => σ[i]? = some (some v)
  | _, _, _, _, .nil, e => by simp at e
  | _, _, 0, _, .val h _, e => by simp at e; subst e; exact ⟨_, rfl, h⟩
  | _, _, 0, _, .slot h _, e => by simp at e; subst e; exact ⟨_, rfl, h⟩
  | _, _, k + 1, ad, .val _ r, e => by
    obtain ⟨v, h1, h2⟩ := ArgsM.get (k := k) (ad := ad) r (by simpa using e)
    exact ⟨v, by simpa using h1, h2⟩
  | _, _, k + 1, ad, .slot _ r, e => by
    obtain ⟨v, h1, h2⟩ := ArgsM.get (k := k) (ad := ad) r (by simpa using e)
    exact ⟨v, by simpa using h1, h2⟩
theorem slots_mem : ∀ {ads : List AD} {k i : Nat}, ads[k]? = some (.o i) → i ∈ slotsOf ads
  | [], _, _, e => by simp at e
  | .v _ :: r, 0, i, e => by simp at e
  | .v _ :: r, k + 1, i, e => slots_mem (ads := r) (k := k) (by simpa using e)
  | .o j :: r, 0, i, e => by simp at e; subst e; exact List.mem_cons_self
  | .o j :: r, k + 1, i, e => List.mem_cons_of_mem _ (slots_mem (ads := r) (k := k) (by simpa using e))
theorem slots_inj : ∀ {ads : List AD} {k l i : Nat}, (slotsOf ads).Nodup → ads[k]? = some (.o i) → ads[l]? = some (.o i) → k = l
  | [], _, _, _, _, e, _ => by simp at e
  | .v _ :: r, 0, _, _, _, e, _ => by simp at e
  | .v _ :: r, _ + 1, 0, _, _, _, e => by simp at e
  | .v _ :: r, k + 1, l + 1, i, nd, e, e' => by rw [slots_inj (ads := r) (k := k) (l := l) nd (by simpa using e) (by simpa using e')]
  | .o j :: r, 0, 0, _, _, _, _ => rfl
  | .o j :: r, 0, l + 1, i, nd, e, e' => by
    simp at e
    subst e
    have nd' : (j :: slotsOf r).Nodup := nd
    exact absurd (slots_mem (ads := r) (k := l) (by simpa using e')) (List.nodup_cons.mp nd').1
  | .o j :: r, k + 1, 0, i, nd, e, e' => by
    simp at e'
    subst e'
    have nd' : (j :: slotsOf r).Nodup := nd
    exact absurd (slots_mem (ads := r) (k := k) (by simpa using e)) (List.nodup_cons.mp nd').1
  | .o j :: r, k + 1, l + 1, i, nd, e, e' => by
    have nd' : (j :: slotsOf r).Nodup := nd
    rw [slots_inj (ads := r) (k := k) (l := l) (List.nodup_cons.mp nd').2 (by simpa using e) (by simpa using e')]
theorem slots_idx : ∀ {ads : List AD} {i : Nat}, i ∈ slotsOf ads → ∃ k : Nat, ads[k]? = some (.o i)
  | [], _, m => by cases m
  | .v _ :: r, i, m => let ⟨k, e⟩ := slots_idx (ads := r) (i := i) m; ⟨k + 1, by simpa using e⟩
  | .o j :: r, i, m => by
    rcases List.mem_cons.mp (show i ∈ j :: slotsOf r from m) with z | z
    · subst z; exact ⟨0, rfl⟩
    · obtain ⟨k, e⟩ := slots_idx (ads := r) (i := i) z
      exact ⟨k + 1, by simpa using e⟩
/-- THE ARGUMENTS of a call taken out of the slots, and put back behind it -/
theorem EnvL.args {H : Hp} {σ : St} {env : EV nf} {fp : List Addr} (R : EnvL K nf H σ env fp) {vs : List V} {ads : List AD} (M : ArgsM K nf H σ vs ads) (nd : (slotsOf ads).Nodup) (hin : ∀ i ∈ slotsOf ads, i < env.length) :
    ∃ fpa, EnvL K nf H (vs.map some) (ads.map (resolve env)) fpa ∧ ∀ H' as fpa', as.length = ads.length → EnvL K nf H' (vs.map some) as fpa' → Ch nf fpa H fpa' H' → ∃ fp', EnvL K nf H' σ (putBack env ads as) fp' ∧ Ch nf fp H fp' H' ∧ (∀ a ∈ fp', a ∈ fpa' ∨ (a ∈ fp ∧ a ∉ fpa)) ∧ ∀ a ∈ fpa, a ∈ fp := bxU (by simp (disch := with_unfolding_all
  classical
  obtain ⟨f, F, hm⟩ := R.toF
  let g : Nat → List Addr := fun k => match ads[k]? with | some (.o i) => f i | _ => []
  have gv : ∀ k i, ads[k]? = some (.o i) → g k = f i := fun k i e => by show (match ads[k]? with | some (.o i) => f i | _ => []) = _; rw [e]
  have gd : ∀ k d, ads[k]? = some (.v d) → g k = [] := fun k d e => by show (match ads[k]? with | some (.o i) => f i | _ => []) = _; rw [e]
  have gmem : ∀ k a, a ∈ g k → ∃ i, ads[k]? = some (.o i) ∧ a ∈ f i := fun k a m => by
    cases e : ads[k]? with
    | none => have : g k = [] := by show (match ads[k]? with | some (.o i) => f i | _ => []) = _; rw [e]
              rw [this] at m; cases m
    | some ad =>
      cases ad with
      | v d => rw [gd k d e] at m; cases m
      | o i => rw [gv k i e] at m; exact ⟨i, rfl, m⟩
  have FA : EnvF K nf H (vs.map some) (ads.map (resolve env)) g := by
    refine ⟨by simp [M.len], fun k s e => ?_, fun k l hk hl hkl a ha => ?_⟩
    · rw [List.getElem?_map] at e
      cases ea : ads[k]? with
      | none => rw [ea] at e; cases e
      | some ad =>
        rw [ea] at e
        simp only [Option.map_some, Option.some.injEq] at e
        obtain ⟨v, ev, hv⟩ := M.get ea
        refine ⟨some v, by rw [List.getElem?_map, ev]; rfl, ?_⟩
        cases ad with
        | v d =>
          subst e
          rw [gd k d ea]
          exact ⟨rfl, v, rfl, hv⟩
        | o i =>
          have hv' : σ[i]? = some (some v) := hv
          have hi := hin i (slots_mem ea)
          obtain ⟨o, eo, so⟩ := F.slot i env[i] (by simp [hi])
          rw [hv'] at eo
          cases eo
          subst e
          rw [gv k i ea]
          show SlotR K nf H (some v) (f i) ((env[i]?).getD .un)
          simp only [List.getElem?_eq_getElem hi, Option.getD_some]
          exact so
    · obtain ⟨i, ei, mi⟩ := gmem k a ha
      intro z
      obtain ⟨j, ej, mj⟩ := gmem l a z
      by_cases hij : i = j
      · subst hij
        exact hkl (slots_inj nd ei ej)
      · exact F.apart i j (hin i (slots_mem ei)) (hin j (slots_mem ej)) hij a mi mj
  obtain ⟨fpa, RA, hma⟩ := FA.toR
  refine ⟨fpa, RA, fun H' as fpa' hl RA' ch => ?_⟩
  obtain ⟨g', F', hm'⟩ := RA'.toF
  have inA : ∀ a, a ∈ fpa ↔ ∃ i, i ∈ slotsOf ads ∧ a ∈ f i := fun a => by
    refine ⟨fun m => ?_, fun ⟨i, hi, mi⟩ => ?_⟩
    · obtain ⟨k, _, mk⟩ := (hma a).mp m
      obtain ⟨i, ei, mi⟩ := gmem k a mk
      exact ⟨i, slots_mem ei, mi⟩
    · obtain ⟨k, ek⟩ := slots_idx hi
      refine (hma a).mpr ⟨k, ?_, by rw [gv k i ek]; exact mi⟩
      rw [List.length_map]
      exact (List.getElem?_eq_some_iff.mp ek).1
  have st : Stp nf H H' := ch.stpL RA
  let f' : Nat → List Addr := fun i => if h : i ∈ slotsOf ads then g' (Classical.choose (slots_idx h)) else f i
  have fv : ∀ k i, ads[k]? = some (.o i) → f' i = g' k := fun k i e => by
    have h : i ∈ slotsOf ads := slots_mem e
    show (if h : i ∈ slotsOf ads then g' (Classical.choose (slots_idx h)) else f i) = _
    rw [dif_pos h, slots_inj nd (Classical.choose_spec (slots_idx h)) e]
  have fo : ∀ i, i ∉ slotsOf ads → f' i = f i := fun i h => dif_neg h
  have notA : ∀ i, i < env.length → i ∉ slotsOf ads → ∀ a ∈ f i, a ∉ fpa := fun i hi h a ha z => by
    obtain ⟨j, hj, mj⟩ := (inA a).mp z
    exact F.apart i j hi (hin j hj) (fun e => h (e ▸ hj)) a ha mj
  have trk : ∀ i, i < env.length → ∀ a ∈ f i, ∃ u, H a = some u := fun i hi a ha => by
    obtain ⟨u, e, _⟩ := R.trk a ((hm a).mpr ⟨i, hi, ha⟩)
    exact ⟨u, e⟩
  have kl : ∀ k i, ads[k]? = some (.o i) → k < as.length := fun k i e => by rw [hl]; exact (List.getElem?_eq_some_iff.mp e).1
  have FF : EnvF K nf H' σ (putBack env ads as) f' := by
    refine ⟨by rw [putBack_len]; exact F.len, fun i s e => ?_, fun i j hi hj hij a ha => ?_⟩
    · rcases putBack_get env ads as i s hl.symm nd e with ⟨h1, h2⟩ | ⟨k, h1, h2⟩
      · obtain ⟨o, eo, so⟩ := F.slot i s h2
        have hi : i < env.length := (List.getElem?_eq_some_iff.mp h2).1
        refine ⟨o, eo, ?_⟩
        rw [fo i h1]
        refine so.frame (fun a ha => ?_) st
        obtain ⟨u, eu⟩ := trk i hi a ha
        rw [eu]
        exact ch.keep a u eu (notA i hi h1 a ha) (R.pl a ((hm a).mpr ⟨i, hi, ha⟩) u eu).1
      · obtain ⟨o, eo, so⟩ := F'.slot k s h2
        obtain ⟨v, ev, hv⟩ := M.get h1
        rw [List.getElem?_map, ev] at eo
        cases eo
        refine ⟨some v, hv, ?_⟩
        rw [fv k i h1]
        exact so
    · rw [putBack_len] at hi hj
      by_cases h1 : i ∈ slotsOf ads
      · obtain ⟨k, ek⟩ := slots_idx h1
        rw [fv k i ek] at ha
        by_cases h2 : j ∈ slotsOf ads
        · obtain ⟨l, el⟩ := slots_idx h2
          rw [fv l j el]
          exact F'.apart k l (kl k i ek) (kl l j el) (fun e => hij (by
            subst e
            rw [ek] at el
            cases el
            rfl)) a ha
        · rw [fo j h2]
          intro z
          rcases ch.sub a ((hm' a).mpr ⟨k, kl k i ek, ha⟩) with q | q
          · exact notA j hj h2 a z q
          · obtain ⟨u, eu⟩ := trk j hj a z
            rw [q] at eu; cases eu
      · rw [fo i h1] at ha
        by_cases h2 : j ∈ slotsOf ads
        · obtain ⟨l, el⟩ := slots_idx h2
          rw [fv l j el]
          intro z
          rcases ch.sub a ((hm' a).mpr ⟨l, kl l j el, z⟩) with q | q
          · exact notA i hi h1 a ha q
          · obtain ⟨u, eu⟩ := trk i hi a ha
            rw [q] at eu; cases eu
        · rw [fo j h2]
          exact F.apart i j hi hj hij a ha
  obtain ⟨fp', R', hmf⟩ := FF.toR
  refine ⟨fp', R', ⟨fun a u e n t => ch.keep a u e (fun m => ?_) t, fun a m => ?_, ch.there, ch.tab⟩, fun a m => ?_, fun a m => ?_⟩
  · obtain ⟨i, hi, mi⟩ := (inA a).mp m
    exact n ((hm a).mpr ⟨i, hin i hi, mi⟩)
  · obtain ⟨i, hi, mi⟩ := (hmf a).mp m
    rw [putBack_len] at hi
    by_cases h1 : i ∈ slotsOf ads
    · obtain ⟨k, ek⟩ := slots_idx h1
      rw [fv k i ek] at mi
      rcases ch.sub a ((hm' a).mpr ⟨k, kl k i ek, mi⟩) with q | q
      · obtain ⟨j, hj, mj⟩ := (inA a).mp q
        exact .inl ((hm a).mpr ⟨j, hin j hj, mj⟩)
      · exact .inr q
    · rw [fo i h1] at mi
      exact .inl ((hm a).mpr ⟨i, hi, mi⟩)
  · obtain ⟨i, hi, mi⟩ := (hmf a).mp m
    rw [putBack_len] at hi
    by_cases h1 : i ∈ slotsOf ads
    · obtain ⟨k, ek⟩ := slots_idx h1
      rw [fv k i ek] at mi
      exact .inl ((hm' a).mpr ⟨k, kl k i ek, mi⟩)
    · rw [fo i h1] at mi
      exact .inr ⟨(hm a).mpr ⟨i, hi, mi⟩, notA i hi h1 a mi⟩
  · obtain ⟨i, hi, mi⟩ := (inA a).mp m
    exact (hm a).mpr ⟨i, hin i hi, mi⟩) only [bxI])
theorem EnvR.args {H : Hp} {σ : St} {env : EV nf} {fp : List Addr} (R : EnvR K nf H σ env fp) {vs : List V} {ads : List AD} (M : ArgsM K nf H σ vs ads) (nd : (slotsOf ads).Nodup) (hin : ∀ i ∈ slotsOf ads, i < env.length) :
    ∃ fpa, EnvL K nf H (vs.map some) (ads.map (resolve env)) fpa ∧ ∀ H' as fpa', as.length = ads.length → EnvL K nf H' (vs.map some) as fpa' → Ch nf fpa H fpa' H' → ∃ fp', EnvR K nf H' σ (putBack env ads as) fp' ∧ Ch nf fp H fp' H' ∧ (∀ a ∈ fp', a ∈ fpa' ∨ (a ∈ fp ∧ a ∉ fpa)) ∧ ∀ a ∈ fpa, a ∈ fp := bxU (by simp (disch := with_unfolding_all
  obtain ⟨fpa, RA, put⟩ := R.1.args M nd hin
  refine ⟨fpa, RA, fun H' as fpa' hl RA' ch => ?_⟩
  obtain ⟨fp', R', c, h1, h2⟩ := put H' as fpa' hl RA' ch
  exact ⟨fp', R.re R' c, c, h1, h2⟩) only [bxI])
end
end DL
namespace DL
open PySem L2
section
variable {X : Cx} {nf : NFs} [Anch nf] {K : PySem.W.Frag}
abbrev SpD (nf : NFs) := List (SD nf) → (D → List (SD nf) → Prop) → Prop
def toSp (K : PySem.W.Frag) (nf : NFs) (n : Nat) (S : SpD nf) : Sp := fun vs H Q _ => vs.length = n ∧ ∃ as fp Qd, as.length = n ∧ EnvL K nf H (vs.map some) as fp ∧ S as Qd ∧
  ∀ v H' d as' fp', as'.length = n → Rel K nf H' v d → EnvL K nf H' (vs.map some) as' fp' → Ch nf fp H fp' H' → Qd d as' → Q v H'
/-- at the end of a body: the owned parameters are still in their slots -/
def BackOk : List (SD nf) → EV nf → Prop
  | [], _ => True
  | .ow v _ :: as, e :: env => ((∃ A', e = .ow v A') ∨ ∃ d, e = .fr v d) ∧ BackOk as env
  | _ :: as, _ :: env => BackOk as env
  | _ :: _, [] => False
def back : List (SD nf) → EV nf → List (SD nf)
  | [], _ => []
  | .ow _ _ :: as, e :: env => e :: back as env
  | a :: as, _ :: env => a :: back as env
  | a :: as, [] => a :: back as []
theorem back_len : ∀ (as : List (SD nf)) (env : EV nf), (back as env).length = as.length
  | [], _ => by simp [back]
  | .ow _ _ :: as, e :: env => by simp [back, back_len as env]
  | .un :: as, e :: env => by simp [back, back_len as env]
  | .fz _ :: as, e :: env => by simp [back, back_len as env]
  | .fr _ _ :: as, e :: env => by simp [back, back_len as env]
  | .ow _ _ :: as, [] => by simp [back, back_len as []]
  | .un :: as, [] => by simp [back, back_len as []]
  | .fz _ :: as, [] => by simp [back, back_len as []]
  | .fr _ _ :: as, [] => by simp [back, back_len as []]
def fnEnds (as : List (SD nf)) (Qd : D → List (SD nf) → Prop) : EndsD nf where
  nx env := BackOk as env ∧ Qd .non (back as env)
  rt d env := BackOk as env ∧ Qd d (back as env)
theorem EnvL.back {H H' : Hp} (st : Stp nf H H') : ∀ {vs : List V} {as : List (SD nf)} {fp : List Addr} {σ' : St} {env' : EV nf} {fp' : List Addr}, EnvL K nf H (vs.map some) as fp → EnvL K nf H' σ' env' fp' → BackOk as env' →
    ∃ fq, EnvL K nf H' (vs.map some) (back as env') fq ∧ ∀ a ∈ fq, a ∈ fp'
  | [], [], _, _, _, _, _, _, _ => ⟨[], by simp only [DL.back]; exact .nil, fun a m => by cases m⟩
  | [], _ :: _, _, _, _, _, R, _, _ => by cases R
  | _ :: _, [], _, _, _, _, R, _, _ => by cases R
  | v :: vs, s :: as, _, _, [], _, _, _, b => by cases s <;> simp [BackOk] at b
  | v :: vs, s :: as, _, [], _ :: _, _, _, R', _ => by cases R'
  | v :: vs, s :: as, fp, o' :: σ', e' :: env', fp', R, R', b => by
    cases R with
    | cons hs hr hd =>
      cases R' with
      | @cons _ _ _ _ f1 f2 hs' hr' hd' =>
        cases s with
        | ow w A =>
          simp only [BackOk] at b
          obtain ⟨fq, R2, sub⟩ := EnvL.back st hr hr' b.2
          have ev : v = w := Option.some.inj hs.1
          subst ev
          refine ⟨f1 ++ fq, ?_, fun a m => ?_⟩
          · simp only [DL.back, List.map_cons]
            refine .cons ?_ R2 fun a m z => hd' a m (sub a z)
            rcases b.1 with ⟨A', e⟩ | ⟨d, e⟩
            · subst e; exact ⟨rfl, hs'.2⟩
            · subst e; exact ⟨hs'.1, rfl, hs'.2.2⟩
          · rcases List.mem_append.mp m with m | m
            · exact List.mem_append_left _ m
            · exact List.mem_append_right _ (sub a m)
        | un =>
          simp only [BackOk] at b
          obtain ⟨fq, R2, sub⟩ := EnvL.back st hr hr' b
          refine ⟨[] ++ fq, ?_, fun a m => List.mem_append_right _ (sub a m)⟩
          simp only [DL.back, List.map_cons]
          exact .cons (show SlotR K nf H' (some v) [] .un from rfl) R2 fun a m => by cases m
        | fz d =>
          simp only [BackOk] at b
          obtain ⟨fq, R2, sub⟩ := EnvL.back st hr hr' b
          refine ⟨[] ++ fq, ?_, fun a m => List.mem_append_right _ (sub a m)⟩
          simp only [DL.back, List.map_cons]
          obtain ⟨_, w, ew, r⟩ := hs
          exact .cons (show SlotR K nf H' (some v) [] (.fz d) from ⟨rfl, w, ew, r.mono st⟩) R2 fun a m => by cases m
        | fr w d =>
          simp only [BackOk] at b
          obtain ⟨fq, R2, sub⟩ := EnvL.back st hr hr' b
          refine ⟨[] ++ fq, ?_, fun a m => List.mem_append_right _ (sub a m)⟩
          simp only [DL.back, List.map_cons]
          obtain ⟨_, ew, r⟩ := hs
          exact .cons (show SlotR K nf H' (some v) [] (.fr w d) from ⟨rfl, ew, r.mono st⟩) R2 fun a m => by cases m
theorem EnvL.pad {H : Hp} : ∀ {σ : St} {env : EV nf} {fp : List Addr} (m : Nat), EnvL K nf H σ env fp → EnvL K nf H (σ ++ List.replicate m none) (env ++ List.replicate m .un) fp
  | _, _, _, 0, .nil => .nil
  | _, _, _, m + 1, .nil => by
    have h : EnvL K nf H (([] : St) ++ List.replicate m none) (([] : EV nf) ++ List.replicate m .un) [] := EnvL.pad m .nil
    have h2 : EnvL K nf H (none :: (([] : St) ++ List.replicate m none)) (.un :: (([] : EV nf) ++ List.replicate m .un)) ([] ++ []) := .cons (show SlotR K nf H none [] .un from rfl) h fun a z => by cases z
    exact h2
  | _, _, _, m, .cons hs hr hd => .cons hs (EnvL.pad m hr) hd
end
section
variable {X : Cx} {nf : NFs} {K : PySem.W.Frag}
/-- THE BODY keeps the promise -/
theorem body_ok {body : List Stmt} {td : DTS nf} {N : List Str} {n : Nat} {S : SpD nf} (h : DSs X nf body td) (hn : n ≤ N.length) (hb : ∀ as Qd, as.length = n → S as Qd → td (fnEnds as Qd) (as ++ List.replicate (N.length - n) .un))
    {vs : List V} {H : Hp} {Q : VK} {E : XK} (hs : toSp X.K nf n S vs H Q E) : ∃ t, PSs X body t ∧ t { nx := fun _ H' => Q .non H', rt := Q } (start N vs) H := bxU (by simp (disch := with_unfolding_all
  obtain ⟨hv, as, fp, Qd, hl, R, s, k⟩ := hs
  refine ⟨_, h, as ++ List.replicate (N.length - n) .un, fp, fnEnds as Qd, ⟨?_, trivial⟩, hb as Qd hl s, ?_⟩
  · have := R.pad (N.length - n)
    rw [← hv] at this ⊢
    exact this
  · refine ⟨fun σ' H' env' fp' R' c ⟨b, q⟩ => ?_, fun v d σ' H' env' fp' r R' c ⟨b, q⟩ => ?_, fun σ' H' env' fp' R' c q => q.elim, fun σ' H' env' fp' R' c q => q.elim, fun _ _ _ _ _ _ _ _ _ _ _ q => q.elim⟩
    · obtain ⟨fq, R2, sub⟩ := EnvL.back (c.stpL (R.pad (N.length - n))) R R'.1 b
      exact k .non H' .non _ fq (by rw [back_len, hl]) .non R2 ⟨c.keep, fun a m => c.sub a (sub a m), c.there, c.tab⟩ q
    · obtain ⟨fq, R2, sub⟩ := EnvL.back (c.stpL (R.pad (N.length - n))) R R'.1 b
      exact k v H' d _ fq (by rw [back_len, hl]) r R2 ⟨c.keep, fun a m => c.sub a (sub a m), c.there, c.tab⟩ q) only [bxI])
end
section
variable {X : Cx} {nf : NFs} [Anch nf] {K : PySem.W.Frag}
abbrev DM (nf : NFs) := EV nf → (List AD → EV nf → Prop) → Prop
def liftM (K : PySem.W.Frag) (nf : NFs) [Anch nf] (r : DM nf) : TA := fun σ H Q => ∃ env fp Qd, EnvR K nf H σ env fp ∧ r env Qd ∧ ∀ vs H' ads env' fp', ArgsM K nf H' σ vs ads → EnvR K nf H' σ env' fp' → Ch nf fp H fp' H' → Qd ads env' → Q vs H'
variable (X nf) in
abbrev DAM (es : List Expr) (r : DM nf) : Prop := PA X es (liftM X.K nf r)
def mNil : DM nf := fun env Q => Q [] env
def mVal (a : DT nf) (r : DM nf) : DM nf := fun env Q => a env fun d env1 => r env1 fun ads env2 => Q (.v d :: ads) env2
def isSet : SD nf → Prop
  | .un => False
  | _ => True
def mSlot (i : Nat) (r : DM nf) : DM nf := fun env Q => (∃ s, env[i]? = some s ∧ isSet s) ∧ r env fun ads env2 => Q (.o i :: ads) env2
theorem dm_nil : DAM X nf [] mNil := pa_imp pa_nil fun σ H Q ⟨env, fp, Qd, R, q, k⟩ => k [] H [] env fp .nil R Ch.refl q
theorem dm_val {e : Expr} {es : List Expr} {a : DT nf} {r : DM nf} (ha : DE X nf e a) (hr : DAM X nf es r) (hs : starEach (e :: es) X.env = (false, eval e X.env) :: starEach es X.env := by rfl) : DAM X nf (e :: es) (mVal a r) :=
  pa_imp (pa_cons ha hr hs) fun σ H Q ⟨env, fp, Qd, R, h, k⟩ => lift_run R h fun v H1 x env1 fp1 r1 R1 c1 q1 =>
    ⟨env1, fp1, _, R1, q1, fun vs H2 ads env2 fp2 r2 R2 c2 q2 => k (v :: vs) H2 (.v x :: ads) env2 fp2 (.val (r1.mono (c2.stp R1)) r2) R2 (c1.trans c2) q2⟩
theorem SlotR.val {H : Hp} {o : Option V} {fp : List Addr} {s : SD nf} (h : SlotR K nf H o fp s) (hs : isSet s) : ∃ v, o = some v := bxU (by simp (disch := with_unfolding_all
  cases s with
  | un => exact hs.elim
  | fz d => obtain ⟨_, v, e, _⟩ := h; exact ⟨v, e⟩
  | ow v A => exact ⟨v, h.1⟩
  | fr v d => exact ⟨v, h.2.1⟩) only [bxI])
theorem dm_slot {i : Nat} {e : Expr} {es : List Expr} {r : DM nf} (ha : PE X e (tVar i)) (hr : DAM X nf es r) (hs : starEach (e :: es) X.env = (false, eval e X.env) :: starEach es X.env := by rfl) : DAM X nf (e :: es) (mSlot i r) := bxU (by simp (disch := with_unfolding_all
  exact pa_imp (pa_cons ha hr hs) fun σ H Q ⟨env, fp, Qd, R, ⟨⟨s, es, hset⟩, h⟩, k⟩ => by
    obtain ⟨o, fi, eo, so, _⟩ := R.at es
    obtain ⟨v, ev⟩ := so.val hset
    subst ev
    exact ⟨v, eo, env, fp, _, R, h, fun vs H2 ads env2 fp2 r2 R2 c2 q2 => k (v :: vs) H2 (.o i :: ads) env2 fp2 (.slot eo r2) R2 c2 q2⟩) only [bxI])
theorem ArgsM.app {H : Hp} {σ : St} (hv : ∀ {v d}, Rel K nf H v d → Rel K nf H v d) : ∀ {vs : List V} {ads : List AD} {ws : List V} {ds : List D}, ArgsM K nf H σ vs ads → Rels K nf H ws ds → ArgsM K nf H σ (vs ++ ws) (ads ++ ds.map .v)
  | _, _, _, _, .nil, .nil => .nil
  | _, _, _, _, .nil, .cons h r => .val h (ArgsM.app hv .nil r)
  | _, _, _, _, .val h r, s => .val h (ArgsM.app hv r s)
  | _, _, _, _, .slot h r, s => .slot h (ArgsM.app hv r s)
def dCall (n : Nat) (S : SpD nf) (dds : List D) (r : DM nf) : DT nf := fun env Q => r env fun ads env1 => ads.length + dds.length = n ∧ (slotsOf (ads ++ dds.map AD.v)).Nodup ∧ (∀ i ∈ slotsOf (ads ++ dds.map AD.v), i < env1.length) ∧
  S ((ads ++ dds.map AD.v).map (resolve env1)) fun d as' => Q d (putBack env1 (ads ++ dds.map AD.v) as')
theorem sp_run {S : SpD nf} {n : Nat} {σ : St} {H : Hp} {Q : VK} {E : XK} {env : EV nf} {fp : List Addr} {vs : List V} {ads : List AD} {Qd : D → EV nf → Prop} (R : EnvR K nf H σ env fp) (M : ArgsM K nf H σ vs ads) (hn : ads.length = n)
    (nd : (slotsOf ads).Nodup) (hin : ∀ i ∈ slotsOf ads, i < env.length) (s : S (ads.map (resolve env)) fun d as' => Qd d (putBack env ads as'))
    (k : ∀ v H' d env' fp', Rel K nf H' v d → EnvR K nf H' σ env' fp' → Ch nf fp H fp' H' → Qd d env' → Q v H') : toSp K nf n S vs H Q E := bxU (by simp (disch := with_unfolding_all
  obtain ⟨fpa, RA, put⟩ := R.args M nd hin
  refine ⟨by rw [M.len, hn], _, fpa, _, by rw [List.length_map, hn], RA, s, fun v H' d as' fp' hl r R' c q => ?_⟩
  obtain ⟨fp2, R2, c2, _⟩ := put H' as' fp' (by rw [hl, hn]) R' c
  exact k v H' d _ fp2 r R2 c2 q) only [bxI])
theorem lift_call {S : SpD nf} {n : Nat} {dvs : List V} {dds : List D} {r : DM nf} {E : XK} (hd : ∀ H, Rels K nf H dvs dds) (σ : St) (H : Hp) (Q : VK) (h : lift K nf (dCall n S dds r) σ H Q) : tCall (toSp K nf n S) dvs E (liftM K nf r) σ H Q := bxU (by simp (disch := with_unfolding_all
  obtain ⟨env, fp, Qd, R, h, k⟩ := h
  refine ⟨env, fp, _, R, h, fun vs H1 ads env1 fp1 r1 R1 c1 ⟨hl, nd, hin, s⟩ => ?_⟩
  exact sp_run R1 (r1.app id (hd H1)) (by rw [List.length_append, List.length_map, hl]) nd hin s fun v H' d env' fp' r' R' c' q => k v H' d env' fp' r' R' (c1.trans c') q) only [bxI])
section
variable {CX : CXT} {k n : Nat} {f C : Addr} {fd : FuncData} {ps : List Str} {S : SpD nf} {dvs : List V} {dds : List D} {ds : List Value} {E : XK} {x m : Str} {p pos apos : Pos} {e o : Expr} {es : List Expr} {r : DM nf} {da : DT nf}
theorem de_call (F : FnOk X.prog X.w X.K X.mg X.base CX k f fd ps (toSp X.K nf n S)) (hr : Room k X.A) (hg : Gl X x) (hm : X.mg x = some (.ref f)) (hk : PySem.W.keepIn X.K (.ref f) = true) (hb : Binds X.K fd ps ds) (hd : Vals dvs ds) (hdd : ∀ H, Rels X.K nf H dvs dds) (hx : Passes CX X E)
    (ha : DAM X nf (e :: es) r) (hdb : (x == ("__debug__" : Str)) = false := by decide) (he : starEach (e :: es) X.env = (false, eval e X.env) :: starEach es X.env := by rfl) (hpl : (backTo pos (starEach es X.env)).any (·.1) = false := by rfl) :
    DE X nf (.Call (.Name x p) (e :: es) [] pos) (dCall n S dds r) := pe_imp (pe_call F hr hg hm hk hb hd hx ha hdb he hpl) (lift_call hdd)
theorem lift_m0 (σ : St) (H : Hp) (Q : List V → Hp → Prop) (h : liftM K nf mNil σ H Q) : tNil σ H Q := bxU (by simp (disch := with_unfolding_all
  obtain ⟨env, fp, Qd, R, q, k⟩ := h
  exact k [] H [] env fp .nil R Ch.refl q) only [bxI])
theorem de_call0 (F : FnOk X.prog X.w X.K X.mg X.base CX k f fd ps (toSp X.K nf n S)) (hr : Room k X.A) (hg : Gl X x) (hm : X.mg x = some (.ref f)) (hk : PySem.W.keepIn X.K (.ref f) = true) (hb : Binds X.K fd ps ds) (hd : Vals dvs ds) (hdd : ∀ H, Rels X.K nf H dvs dds) (hx : Passes CX X E)
    (hdb : (x == ("__debug__" : Str)) = false := by decide) : DE X nf (.Call (.Name x p) [] [] pos) (dCall n S dds mNil) := pe_imp (pe_call0 F hr hg hm hk hb hd hx hdb) fun σ H Q h => lift_m0 σ H _ (lift_call (E := E) hdd σ H Q h)
theorem RelF.lookup : ∀ {H : Hp} {fs : List (Str × V)} {fds : List (Str × D)} {m : Str} {d : D}, RelF K nf H fs fds → fds.lookup m = some d → ∃ v, fs.lookup m = some v ∧ Rel K nf H v d
  | _, _, _, _, _, .nil, e => by cases e
  | _, _, _, m, d, @RelF.cons _ _ _ k v vs d' ds h r, e => by
    rw [List.lookup_cons] at e ⊢
    split at e
    · cases e; exact ⟨v, rfl, h⟩
    · exact RelF.lookup r e
def dFld (C : Addr) (m : Str) (da : DT nf) : DT nf := fun env Q => da env fun ob env1 => ∃ fds d, ob = .obj C fds ∧ fds.lookup m = some d ∧ Q d env1
theorem de_fld (he : DE X nf o da) (c : Cls X.K C) (hn : NoAttr X.K C m) (hb : attributeBase o m X.env (eval o X.env) = eval o X.env := by rfl) : DE X nf (.Attribute o m pos) (dFld C m da) := pe_imp (pe_fld he hb) fun σ H Q h => by
  obtain ⟨env, fp, Qd, R, h, k⟩ := h
  refine lift_run R h fun v H1 ob env1 fp1 r1 R1 c1 ⟨fds, d, eo, hl, q⟩ => ?_
  subst eo
  cases r1 with
  | @obj a _ dx fs _ ha h1 h2 rf =>
    obtain ⟨v, ev, rv⟩ := rf.lookup hl
    exact ⟨a, C, dx, fs, v, rfl, ha, c, hn, ev, k v H1 d env1 fp1 rv R1 c1 q⟩
end
end
end DL
namespace DL
open PySem L2
section
variable {X : Cx} {nf : NFs} [Anch nf] {K : PySem.W.Frag}
/-- two ints -/
def fI (C : Int → Int → Prop) (g : Int → Int → D) : D → D → D → Prop := fun x y z => ∃ i j, x = .int i ∧ y = .int j ∧ C i j ∧ z = g i j
def fI0 (g : Int → Int → D) : D → D → D → Prop := fun x y z => ∃ i j, x = .int i ∧ y = .int j ∧ z = g i j
theorem od_I {C : Int → Int → Prop} {g : Int → Int → Int} : OpD K nf (rI C fun i j => .int (g i j)) (fI C fun i j => .int (g i j)) := by
  rintro H v w x y z r1 r2 ⟨i, j, rfl, rfl, hc, rfl⟩ Q q
  exact ⟨i, j, rel_int r1, rel_int r2, hc, q _ H (.int _) Xt.refl⟩
theorem od_I0 {g : Int → Int → Int} : OpD K nf (rI0 fun i j => .int (g i j)) (fI0 fun i j => .int (g i j)) := by
  rintro H v w x y z r1 r2 ⟨i, j, rfl, rfl, rfl⟩ Q q
  exact ⟨i, j, rel_int r1, rel_int r2, q _ H (.int _) Xt.refl⟩
theorem od_B0 {g : Int → Int → Bool} : OpD K nf (rI0 fun i j => .bl (g i j)) (fI0 fun i j => .bl (g i j)) := by
  rintro H v w x y z r1 r2 ⟨i, j, rfl, rfl, rfl⟩ Q q
  exact ⟨i, j, rel_int r1, rel_int r2, q _ H (.bl _) Xt.refl⟩
section
variable {a b : Expr} {pos : Pos} {da db : DT nf}
def dSub (da db : DT nf) : DT nf := dOp (fI0 fun i j => .int (i - j)) da db
def dMul (da db : DT nf) : DT nf := dOp (fI CMul fun i j => .int (i * j)) da db
def dMod (da db : DT nf) : DT nf := dOp (fI (fun _ j => 0 < j) fun i j => .int (i % j)) da db
def dDiv (da db : DT nf) : DT nf := dOp (fI CDivW fun i j => .int (i / j)) da db
def dPow (da db : DT nf) : DT nf := dOp (fI CPow fun i j => .int (i ^ j.toNat)) da db
theorem de_sub (ha : DE X nf a da) (hb : DE X nf b db) : DE X nf (.BinOp a .Sub b pos) (dSub da db) := de_op op_sub od_I0 ha hb
theorem de_mul (ha : DE X nf a da) (hb : DE X nf b db) : DE X nf (.BinOp a .Mult b pos) (dMul da db) := de_op op_mul od_I ha hb
theorem de_mod (ha : DE X nf a da) (hb : DE X nf b db) : DE X nf (.BinOp a .Mod b pos) (dMod da db) := de_op op_mod od_I ha hb
theorem de_div (ha : DE X nf a da) (hb : DE X nf b db) : DE X nf (.BinOp a .FloorDiv b pos) (dDiv da db) := de_op op_fdivW od_I ha hb
theorem de_pow (ha : DE X nf a da) (hb : DE X nf b db) : DE X nf (.BinOp a .Pow b pos) (dPow da db) := de_op op_pow od_I ha hb
def dCmp (g : Int → Int → Bool) (da db : DT nf) : DT nf := dOp (fI0 fun i j => .bl (g i j)) da db
abbrev cLt : Int → Int → Bool := fun i j => decide (i < j)
abbrev cLe : Int → Int → Bool := fun i j => decide (i ≤ j)
theorem dc_lt (ha : DE X nf a da) (hb : DE X nf b db) : DC X nf (.Compare a [.Lt] [b] pos) (dBv (dCmp cLt da db)) := dc_cmp op_lt od_B0 ha hb (nomark _)
end
def eqS : D → D → Option Bool
  | .non, .non => some true | .non, .int _ => some false | .int _, .non => some false | .non, .bl _ => some false | .bl _, .non => some false | .non, .str _ => some false | .str _, .non => some false
  | .int i, .int j => some (decide (i = j)) | .bl i, .bl j => some (decide (i = j)) | .str i, .str j => some (decide (i = j))
  | .int _, .str _ => some false | .str _, .int _ => some false | .bl _, .str _ => some false | .str _, .bl _ => some false
  | _, _ => none
def fEq (neg : Bool) : D → D → D → Prop := fun x y z => ∃ b, eqS x y = some b ∧ z = .bl (if neg then !b else b)
theorem scal_of {H : Hp} {v w : V} {x y : D} {b : Bool} (r1 : Rel K nf H v x) (r2 : Rel K nf H w y) (e : eqS x y = some b) : scal v w = true ∧ decide (v = w) = b := bxU (by simp (disch := with_unfolding_all
  cases r1 <;> cases r2 <;> simp [eqS] at e <;> subst e <;> simp [scal]) only [bxI])
theorem od_eq : OpD K nf rEq (fEq false) := by
  rintro H v w x y z r1 r2 ⟨b, e, rfl⟩ Q q
  obtain ⟨h1, h2⟩ := scal_of r1 r2 e
  exact ⟨h1, by rw [h2]; exact q _ H (.bl _) Xt.refl⟩
theorem od_ne : OpD K nf rNe (fEq true) := by
  rintro H v w x y z r1 r2 ⟨b, e, rfl⟩ Q q
  obtain ⟨h1, h2⟩ := scal_of r1 r2 e
  exact ⟨h1, by rw [h2]; exact q _ H (.bl _) Xt.refl⟩
mutual
def pyOf : D → Option PyData
  | .non => some .none
  | .bl b => some (.bool b)
  | .int i => some (.int i)
  | .str s => some (.str s)
  | .lst xs => (pyOfs xs).map .list
  | .tup xs => (pyOfs xs).map .tuple
  | _ => none
def pyOfs : List D → Option (List PyData)
  | [] => some []
  | x :: xs => (pyOf x).bind fun d => (pyOfs xs).map fun ds => d :: ds
end
mutual
theorem dp_of {H : Hp} : ∀ {v : V} {x : D} {d : PyData}, Rel K nf H v x → pyOf x = some d → Dp K H v d
  | _, _, _, .non, e => by simp only [pyOf, Option.some.injEq] at e; subst e; exact .non
  | _, _, _, .bl b, e => by simp only [pyOf, Option.some.injEq] at e; subst e; exact .bl b
  | _, _, _, .int i, e => by simp only [pyOf, Option.some.injEq] at e; subst e; exact .int i
  | _, _, _, .str s, e => by simp only [pyOf, Option.some.injEq] at e; subst e; exact .str s
  | _, _, _, .ty n, e => by simp only [pyOf] at e; cases e
  | _, _, _, .cls a, e => by simp only [pyOf] at e; cases e
  | _, _, _, .dct h r, e => by simp only [pyOf] at e; cases e
  | _, _, _, .obj h n l r, e => by simp only [pyOf] at e; cases e
  | _, _, _, .scr h, e => by simp only [pyOf] at e; cases e
  | _, _, _, .exc h r, e => by simp only [pyOf] at e; cases e
  | _, _, _, .fn0 h, e => by simp only [pyOf] at e; cases e
  | _, _, _, .fn h c r, e => by simp only [pyOf] at e; cases e
  | _, _, _, @Rel.tup _ _ _ a vs ds h r, e => by
    simp only [pyOf] at e
    cases q : pyOfs ds with
    | none => rw [q] at e; cases e
    | some ps => rw [q] at e; simp only [Option.map_some, Option.some.injEq] at e; subst e; exact .tup h (dps_of r q)
  | _, _, _, @Rel.lst _ _ _ a vs ds h r, e => by
    simp only [pyOf] at e
    cases q : pyOfs ds with
    | none => rw [q] at e; cases e
    | some ps => rw [q] at e; simp only [Option.map_some, Option.some.injEq] at e; subst e; exact .lst h.sq (dps_of r q)
theorem dps_of {H : Hp} : ∀ {vs : List V} {xs : List D} {ds : List PyData}, Rels K nf H vs xs → pyOfs xs = some ds → DpAll K H vs ds
  | _, _, _, .nil, e => by simp only [pyOfs, Option.some.injEq] at e; subst e; exact .nil
  | _, _, _, @Rels.cons _ _ _ v vs d ds h r, e => by
    simp only [pyOfs] at e
    cases q : pyOf d with
    | none => rw [q] at e; cases e
    | some p =>
      cases q2 : pyOfs ds with
      | none => rw [q, q2] at e; cases e
      | some ps => rw [q, q2] at e; simp only [Option.bind_some, Option.map_some, Option.some.injEq] at e; subst e; exact .cons (dp_of h q) (dps_of r q2)
end
def fEqD (neg : Bool) : D → D → D → Prop := fun x y z => ∃ d e, pyOf x = some d ∧ pyOf y = some e ∧ SeqAt.shaped d = true ∧ SeqAt.shaped e = true ∧ z = .bl (if neg then !PyData.eqv d e else PyData.eqv d e)
theorem od_eqD : OpD K nf (rEqD K) (fEqD false) := by
  rintro H v w x y z r1 r2 ⟨d, e, h1, h2, s1, s2, rfl⟩ Q q
  exact ⟨d, e, dp_of r1 h1, dp_of r2 h2, s1, s2, q _ H (.bl _) Xt.refl⟩
theorem od_neD : OpD K nf (rNeD K) (fEqD true) := by
  rintro H v w x y z r1 r2 ⟨d, e, h1, h2, s1, s2, rfl⟩ Q q
  exact ⟨d, e, dp_of r1 h1, dp_of r2 h2, s1, s2, q _ H (.bl _) Xt.refl⟩
section
variable {a b : Expr} {pos : Pos} {da db : DT nf}
def fIxL : D → D → D → Prop := fun x y z => ∃ xs i, x = .lst xs ∧ y = .int i ∧ atI xs i = some z
def fIxT : D → D → D → Prop := fun x y z => ∃ xs i, x = .tup xs ∧ y = .int i ∧ atI xs i = some z
def fIxS : D → D → D → Prop := fun x y z => ∃ s i c, x = .str s ∧ y = .int i ∧ s.length ≤ 1000000 ∧ atI s.cps.toList i = some c ∧ z = .str ⟨#[c]⟩
theorem Rels.atI {H : Hp} {vs : List V} {xs : List D} {i : Int} {z : D} (r : Rels K nf H vs xs) (e : L2.atI xs i = some z) : ∃ v, L2.atI vs i = some v ∧ Rel K nf H v z := bxU (by simp (disch := with_unfolding_all
  unfold L2.atI at e ⊢
  rw [r.length]
  cases q : ixN xs.length i with
  | none => rw [q] at e; cases e
  | some j =>
    rw [q] at e
    simp only [Option.bind_some] at e ⊢
    exact r.get e) only [bxI])
theorem od_ixL : OpD K nf (rIxL K) fIxL := by
  rintro H v w x y z r1 r2 ⟨xs, i, rfl, rfl, e⟩ Q q
  cases r1 with
  | lst h r =>
    obtain ⟨u, e2, r3⟩ := r.atI e
    exact ⟨_, _, i, u, rfl, rel_int r2, h.sq, e2, q u H r3 Xt.refl⟩
theorem od_ixT : OpD K nf (rIxT K) fIxT := by
  rintro H v w x y z r1 r2 ⟨xs, i, rfl, rfl, e⟩ Q q
  cases r1 with
  | tup h r =>
    obtain ⟨u, e2, r3⟩ := r.atI e
    exact ⟨_, _, i, u, rfl, rel_int r2, h, e2, q u H r3 Xt.refl⟩
theorem od_ixS : OpD K nf rIxS fIxS := by
  rintro H v w x y z r1 r2 ⟨s, i, c, rfl, rfl, hl, e, rfl⟩ Q q
  exact ⟨s, i, c, rel_str r1, rel_int r2, sz_ok hl, e, q _ H (.str _) Xt.refl⟩
def flatD : D → Option V
  | .non => some .non
  | .bl b => some (.bl b)
  | .int i => some (.int i)
  | .str s => some (.str s)
  | _ => none
def flatDs : List D → Option (List V)
  | [] => some []
  | x :: xs => (flatD x).bind fun v => (flatDs xs).map fun vs => v :: vs
theorem flat_of {H : Hp} {v : V} {x : D} {u : V} (r : Rel K nf H v x) (e : flatD x = some u) : v = u ∧ flatV v = true := bxU (by simp (disch := with_unfolding_all
  cases r <;> simp only [flatD] at e <;> cases e <;> exact ⟨rfl, rfl⟩) only [bxI])
theorem flats_of {H : Hp} : ∀ {vs : List V} {xs : List D} {us : List V}, Rels K nf H vs xs → flatDs xs = some us → vs = us ∧ vs.all flatV = true
  | _, _, _, .nil, e => by simp only [flatDs, Option.some.injEq] at e; subst e; exact ⟨rfl, rfl⟩
  | _, _, _, @Rels.cons _ _ _ v vs d ds h r, e => by
    simp only [flatDs] at e
    cases q : flatD d with
    | none => rw [q] at e; cases e
    | some p =>
      cases q2 : flatDs ds with
      | none => rw [q, q2] at e; cases e
      | some ps =>
        rw [q, q2] at e
        simp only [Option.bind_some, Option.map_some, Option.some.injEq] at e
        subst e
        obtain ⟨e1, f1⟩ := flat_of h q
        obtain ⟨e2, f2⟩ := flats_of r q2
        subst e1 e2
        exact ⟨rfl, by simp [f1, f2]⟩
def fIn (neg : Bool) : D → D → D → Prop := fun x y z => ∃ xs v us, (y = .lst xs ∨ y = .tup xs) ∧ flatD x = some v ∧ flatDs xs = some us ∧ z = .bl (if neg then !inV v us else inV v us)
theorem od_in {neg : Bool} : OpD K nf (rIn K neg) (fIn neg) := by
  rintro H v w x y z r1 r2 ⟨xs, v', us, hy, e1, e2, rfl⟩ Q q
  obtain ⟨ev, fv⟩ := flat_of r1 e1
  subst ev
  rcases hy with rfl | rfl
  · cases r2 with
    | lst h r =>
      obtain ⟨eu, fu⟩ := flats_of r e2
      subst eu
      exact ⟨_, _, rfl, .inl h.sq, fv, fu, q _ H (.bl _) Xt.refl⟩
  · cases r2 with
    | tup h r =>
      obtain ⟨eu, fu⟩ := flats_of r e2
      subst eu
      exact ⟨_, _, rfl, .inr h, fv, fu, q _ H (.bl _) Xt.refl⟩
/-- one sign in a text -/
def fInS : D → D → D → Prop := fun x y z => ∃ (c : Nat) (s : Str), x = .str ⟨#[c]⟩ ∧ y = .str s ∧ z = .bl (decide (c ∈ s.cps.toList))
theorem od_inS : OpD K nf (fun x y H Q => ∃ (c : Nat) (z : Str), x = .str ⟨#[c]⟩ ∧ y = .str z ∧ Q (.bl (decide (c ∈ z.cps.toList))) H) fInS := by
  rintro H v w x y z r1 r2 ⟨c, s, rfl, rfl, rfl⟩ Q q
  exact ⟨c, s, rel_str r1, rel_str r2, q _ H (.bl _) Xt.refl⟩
end
end
end DL
namespace DL
open PySem L2
section
variable {X : Cx} {nf : NFs} [Anch nf] {K : PySem.W.Frag}
def lsAt (K : PySem.W.Frag) (env : EV nf) (i : Nat) (xs : List D) : Prop := env[i]? = some (.fz (.lst xs)) ∨ ∃ v, env[i]? = some (.ow v (lstA K nf xs))
theorem EnvR.peek {H : Hp} {σ : St} {env : EV nf} {fp : List Addr} (R : EnvR K nf H σ env fp) {i : Nat} {xs : List D} (h : lsAt K env i xs) : ∃ p vs, σ[i]? = some (some (.ref p)) ∧ SqL K H p vs ∧ Rels K nf H vs xs := bxU (by simp (disch := with_unfolding_all
  rcases h with e | ⟨v, e⟩
  · obtain ⟨o, fi, e1, ⟨_, v, ev, r⟩, _⟩ := R.at e
    subst ev
    cases r with
    | lst h r => exact ⟨_, _, e1, h.sq, r⟩
  · obtain ⟨p, vs, ev, es, hp, r, _⟩ := R.lstAt e
    exact ⟨p, vs, es, SqL.of hp, r⟩) only [bxI])
section
variable {a b l : Expr} {pos : Pos} {da db : DT nf} {i : Nat}
/-- xs[e] -/
def dIxV (K : PySem.W.Frag) (i : Nat) (db : DT nf) : DT nf := fun env Q => (∃ xs, lsAt K env i xs) ∧ db env fun y env1 => ∃ xs j z, lsAt K env1 i xs ∧ y = .int j ∧ atI xs j = some z ∧ Q z env1
theorem de_ixV (hl : PE X l (tVar i)) (hb : DE X nf b db) (hs : PlainIx b := by exact fun _ _ => rfl) : DE X nf (.Subscript l b pos) (dIxV X.K i db) := pe_imp (pe_ix ix_list hl hb hs) fun σ H Q ⟨env, fp, Qd, R, ⟨⟨xs0, h0⟩, h⟩, k⟩ => by
  obtain ⟨p, vs, es, _, _⟩ := R.peek h0
  refine ⟨_, es, lift_run R h fun w H1 y env1 fp1 r1 R1 c1 ⟨xs, j, z, h1, ey, ez, q⟩ => ?_⟩
  subst ey
  obtain ⟨p', vs', es', sq, rr⟩ := R1.peek h1
  rw [es] at es'
  cases es'
  obtain ⟨u, e2, r3⟩ := rr.atI ez
  exact ⟨p, vs', j, u, rfl, rel_int r1, sq, e2, k u H1 z env1 fp1 r3 R1 c1 q⟩
theorem lift_B2 {t : TE} {td : DT nf} (hi : ∀ σ H Q, lift K nf td σ H Q → t σ H Q) (σ : St) (H : Hp) (Q : Bool → Hp → Prop) (h : liftB K nf (dBv td) σ H Q) : tB t σ H Q := bxU (by simp (disch := with_unfolding_all
  obtain ⟨env, fp, Qd, R, h, k⟩ := h
  refine hi σ H _ (lift_run R h fun v H1 x env1 fp1 r1 R1 c1 ⟨b, e, q⟩ => ?_)
  subst e
  exact ⟨b, rel_bl r1, k b H1 env1 fp1 R1 c1 q⟩) only [bxI])
theorem pt_cmpB {op : CmpOp} {r : R2} {ta tb : TE} (ho : OpR X (compareOp op) r) (ha : PE X a ta) (hb : PE X b tb) (hm : behindInMarks op b = false) : PT X (.Compare a [op] [b] pos) (tB (tOp r ta tb)) := pt_imp (pt_cmpR ho ha hb hm) fun σ H Q h => h
end
def CbD (K : PySem.W.Frag) (nf : NFs) (r : List V → Hp → VK → Prop) (f : List D → D → Prop) : Prop := ∀ H vs ds d, Rels K nf H vs ds → f ds d → ∀ Q : VK, (∀ v H', Rel K nf H' v d → Xt H H' → Q v H') → r vs H Q
def dCB (f : List D → D → Prop) (r : DAs nf) : DT nf := fun env Q => r env fun ds env1 => ∃ d, f ds d ∧ Q d env1
theorem lift_CB {r : List V → Hp → VK → Prop} {f : List D → D → Prop} {ra : DAs nf} (o : CbD K nf r f) (σ : St) (H : Hp) (Q : VK) (h : lift K nf (dCB f ra) σ H Q) : tCB r (liftA K nf ra) σ H Q := bxU (by simp (disch := with_unfolding_all
  obtain ⟨env, fp, Qd, R, h, k⟩ := h
  refine ⟨env, fp, _, R, h, fun vs H1 ds env1 fp1 r1 R1 c1 ⟨d, hd, q⟩ => ?_⟩
  exact o H1 vs ds d r1 hd Q fun v H2 r2 x2 => k v H2 d env1 fp1 r2 (R1.ext x2) (c1.trans x2.ch) q) only [bxI])
/-- .. whose answer is frozen at once -/
def rFz (r : List V → Hp → VK → Prop) : List V → Hp → VK → Prop := fun vs H Q => r vs H fun v H' => ∃ p u, v = .ref p ∧ H' p = some u ∧ Mut (some u) ∧ ∀ o, Q v (upd H' p (.frz o u))
section
variable {id T : String} {r : List V → Hp → VK → Prop} {f : List D → D → Prop} {ra : DAs nf} {x : Str} {e : Expr} {es : List Expr} {p pos : Pos}
theorem de_cb (hc : CallR X (.builtin id) r) (o : CbD X.K nf r f) (hg : Gl X x) (hm : X.mg x = none) (hv : bootBuiltins x = some (.builtin id)) (ha : DA X nf (e :: es) ra) (hn : x ≠ "__name__" := by decide) (hdb : (x == ("__debug__" : Str)) = false := by decide)
    (he : starEach (e :: es) X.env = (false, eval e X.env) :: starEach es X.env := by rfl) (hpl : (backTo pos (starEach es X.env)).any (·.1) = false := by rfl) : DE X nf (.Call (.Name x p) (e :: es) [] pos) (dCB f ra) := pe_imp (pe_callB hc hg hm hv ha hn hdb he hpl) (lift_CB o)
theorem de_ct (hc : CallR X (.type T) r) (o : CbD X.K nf r f) (hg : Gl X x) (hm : X.mg x = none) (hv : bootBuiltins x = some (.type T)) (ha : DA X nf (e :: es) ra) (hn : x ≠ "__name__" := by decide) (hdb : (x == ("__debug__" : Str)) = false := by decide)
    (he : starEach (e :: es) X.env = (false, eval e X.env) :: starEach es X.env := by rfl) (hpl : (backTo pos (starEach es X.env)).any (·.1) = false := by rfl) : DE X nf (.Call (.Name x p) (e :: es) [] pos) (dCB f ra) := pe_imp (pe_callTy hc hg hm hv ha hn hdb he hpl) (lift_CB o)
theorem de_ctF (hc : CallR X (.type T) r) (o : CbD X.K nf (rFz r) f) (hg : Gl X x) (hm : X.mg x = none) (hv : bootBuiltins x = some (.type T)) (ha : DA X nf (e :: es) ra) (hn : x ≠ "__name__" := by decide) (hdb : (x == ("__debug__" : Str)) = false := by decide)
    (he : starEach (e :: es) X.env = (false, eval e X.env) :: starEach es X.env := by rfl) (hpl : (backTo pos (starEach es X.env)).any (·.1) = false := by rfl) : DE X nf (.Call (.Name x p) (e :: es) [] pos) (dCB f ra) := pe_imp (pe_fz (pe_callTy hc hg hm hv ha hn hdb he hpl)) (lift_CB o)
end
theorem rels1x {H : Hp} {vs : List V} {d : D} (r : Rels K nf H vs [d]) : ∃ v, vs = [v] ∧ Rel K nf H v d := bxU (by simp (disch := with_unfolding_all
  cases r with
  | cons h t => cases t; exact ⟨_, rfl, h⟩) only [bxI])
theorem rels2x {H : Hp} {vs : List V} {d e : D} (r : Rels K nf H vs [d, e]) : ∃ v w, vs = [v, w] ∧ Rel K nf H v d ∧ Rel K nf H w e := bxU (by simp (disch := with_unfolding_all
  cases r with
  | cons h t => obtain ⟨w, rfl, hw⟩ := rels1x t; exact ⟨_, _, rfl, h, hw⟩) only [bxI])
/-- len -/
def fLen : List D → D → Prop := fun ds d => (∃ xs, (ds = [.lst xs] ∨ ds = [.tup xs]) ∧ d = .int xs.length)
def fLenS : List D → D → Prop := fun ds d => ∃ z, ds = [.str z] ∧ z.length ≤ 1000000 ∧ d = .int z.length
theorem cd_len : CbD K nf (fun xs H Q => ∃ p ys, xs = [.ref p] ∧ (SqL K H p ys ∨ SqT K H p ys) ∧ Q (.int ys.length) H) fLen := by
  rintro H vs ds d r ⟨xs, hd, rfl⟩ Q q
  rcases hd with rfl | rfl
  · obtain ⟨v, rfl, h⟩ := rels1x r
    cases h with
    | lst h rr => exact ⟨_, _, rfl, .inl h.sq, by rw [rr.length]; exact q _ H (.int _) Xt.refl⟩
  · obtain ⟨v, rfl, h⟩ := rels1x r
    cases h with
    | tup h rr => exact ⟨_, _, rfl, .inr h, by rw [rr.length]; exact q _ H (.int _) Xt.refl⟩
theorem cd_lenS : CbD K nf (fun xs H Q => ∃ z, xs = [.str z] ∧ z.length ≤ sizeLine ∧ Q (.int z.length) H) fLenS := by
  rintro H vs ds d r ⟨z, rfl, hl, rfl⟩ Q q
  obtain ⟨v, rfl, h⟩ := rels1x r
  cases h
  exact ⟨z, rfl, sz_ok hl, q _ H (.int _) Xt.refl⟩
/-- int of an int or a bool; abs; str of an int -/
def fInt : List D → D → Prop := fun ds d => (∃ i, ds = [.int i] ∧ d = .int i) ∨ ∃ b, ds = [.bl b] ∧ d = .int (if b then 1 else 0)
theorem cd_int : CbD K nf (fun xs H Q => (∃ i, xs = [.int i] ∧ Q (.int i) H) ∨ ∃ k, xs = [.bl k] ∧ Q (.int (if k then 1 else 0)) H) fInt := by
  rintro H vs ds d r (⟨i, rfl, rfl⟩ | ⟨b, rfl, rfl⟩) Q q
  · obtain ⟨v, rfl, h⟩ := rels1x r
    cases h
    exact .inl ⟨i, rfl, q _ H (.int _) Xt.refl⟩
  · obtain ⟨v, rfl, h⟩ := rels1x r
    cases h
    exact .inr ⟨b, rfl, q _ H (.int _) Xt.refl⟩
def fStrI : List D → D → Prop := fun ds d => ∃ i : Int, ds = [.int i] ∧ i.natAbs.log2 < 1920 ∧ d = .str (toString i)
theorem cd_strI : CbD K nf (fun xs H Q => ∃ i : Int, xs = [.int i] ∧ i.natAbs.log2 < 1920 ∧ Q (.str (toString i)) H) fStrI := by
  rintro H vs ds d r ⟨i, rfl, hl, rfl⟩ Q q
  obtain ⟨v, rfl, h⟩ := rels1x r
  cases h
  exact ⟨i, rfl, hl, q _ H (.str _) Xt.refl⟩
/-- list(list | tuple), frozen; tuple(list) -/
def fList : List D → D → Prop := fun ds d => ∃ xs, (ds = [.lst xs] ∨ ds = [.tup xs]) ∧ d = .lst xs
theorem cd_list : CbD K nf (rFz fun xs H Q => ∃ p ys, xs = [.ref p] ∧ (SqL K H p ys ∨ SqT K H p ys) ∧ ∀ l, H l = none → Q (.ref l) (upd H l (.lst ys))) fList := by
  rintro H vs ds d r ⟨xs, hd, rfl⟩ Q q
  have fin : ∀ ys, Rels K nf H ys xs → ∀ l, H l = none → ∃ p u, V.ref l = .ref p ∧ (upd H l (.lst ys)) p = some u ∧ Mut (some u) ∧ ∀ o, Q (.ref l) (upd (upd H l (.lst ys)) p (.frz o u)) := fun ys rr l hl => by
    refine ⟨l, _, rfl, upd_same, trivial, fun o => ?_⟩
    have x : Xt H (upd (upd H l (.lst ys)) l (.frz o (.lst ys))) := xt_fz (Xt.new hl) hl
    exact q _ _ (.lst ⟨o, upd_same⟩ (rr.mono x.stp)) x
  rcases hd with rfl | rfl
  · obtain ⟨v, rfl, h⟩ := rels1x r
    cases h with
    | lst h rr => exact ⟨_, _, rfl, .inl h.sq, fin _ rr⟩
  · obtain ⟨v, rfl, h⟩ := rels1x r
    cases h with
    | tup h rr => exact ⟨_, _, rfl, .inr h, fin _ rr⟩
def fTuple : List D → D → Prop := fun ds d => ∃ xs, (ds = [.lst xs] ∨ ds = [.tup xs]) ∧ d = .tup xs
theorem cd_tuple : CbD K nf (fun xs H Q => ∃ p ys, xs = [.ref p] ∧ ((SqL K H p ys ∧ ∀ l, H l = none → Q (.ref l) (upd H l (.tup ys))) ∨ (SqT K H p ys ∧ Q (.ref p) H))) fTuple := by
  rintro H vs ds d r ⟨xs, hd, rfl⟩ Q q
  rcases hd with rfl | rfl
  · obtain ⟨v, rfl, h⟩ := rels1x r
    cases h with
    | @lst _ ws _ h rr =>
      refine ⟨_, _, rfl, .inl ⟨h.sq, fun l hl => ?_⟩⟩
      have x : Xt H (upd H l (.tup ws)) := Xt.new hl
      exact q _ _ (.tup (SqT.of upd_same) (rr.mono x.stp)) x
  · obtain ⟨v, rfl, h⟩ := rels1x r
    cases h with
    | tup h rr => exact ⟨_, _, rfl, .inr ⟨h, q _ H (.tup h rr) Xt.refl⟩⟩
/-- dict(dict), list(dict), frozen -/
def fDict : List D → D → Prop := fun ds d => ∃ kds, ds = [.dct kds] ∧ d = .dct kds
theorem strs_rels {H : Hp} : ∀ (ss : List Str), Rels K nf H (ss.map V.str) (ss.map D.str)
  | [] => .nil
  | s :: ss => .cons (.str s) (strs_rels ss)
/-- all of bools -/
theorem rels_bls {H : Hp} : ∀ {vs : List V} {bs : List Bool}, Rels K nf H vs (bs.map .bl) → vs = bs.map V.bl
  | _, [], .nil => rfl
  | _, s :: ss, .cons h r => by cases h; rw [rels_bls r]; rfl
def fAll : List D → D → Prop := fun ds d => ∃ bs : List Bool, ds = [.lst (bs.map .bl)] ∧ d = .bl (bs.all id)
theorem cd_all : CbD K nf (rAll K) fAll := by
  rintro H vs ds d r ⟨bs, rfl, rfl⟩ Q q
  obtain ⟨v, rfl, h⟩ := rels1x r
  cases h with
  | lst h rr =>
    have e := rels_bls rr
    subst e
    exact ⟨_, bs, rfl, h.sq, q _ H (.bl _) Xt.refl⟩
structure IsiC (K : PySem.W.Frag) (C : Addr) : Prop where
  cl : Cls K C
  ha : PySem.W.findIn K (.ref C) "__class__" = some (some (.builtin "object.__class__"))
  hn : PySem.W.specialIn K (.builtin "object.__class__") "__get__" = some (some (.builtin "getset_descriptor.__get__"))
  htk : PySem.W.takesIn K (.builtin "object.__class__") = some true
  hm : PySem.W.mroIn K C (.type "object") = some true
def tyD : D → Option Value
  | .non => some (.type "NoneType")
  | .bl _ => some (.type "bool")
  | .int _ => some (.type "int")
  | .str _ => some (.type "str")
  | .tup _ => some (.type "tuple")
  | .lst _ => some (.type "list")
  | .dct _ => some (.type "dict")
  | .obj C _ => some (.ref C)
  | _ => none
theorem ty_of {H : Hp} {v : V} {x : D} {t : Value} (hC : ∀ C fs, x = .obj C fs → IsiC K C) (r : Rel K nf H v x) (e : tyD x = some t) : TyX K H v t := bxU (by simp (disch := with_unfolding_all
  cases r with
  | non => cases e; exact .base .non
  | bl b => cases e; exact .base (.bl b)
  | int i => cases e; exact .base (.int i)
  | str s => cases e; exact .base (.str s)
  | ty n => cases e
  | exc h r => cases e
  | fn0 h => cases e
  | fn h c r => cases e
  | cls a => cases e
  | tup h r =>
    cases e
    rcases h with (h | ⟨o, h⟩) | ⟨o, its, n, h1, h2, _⟩
    · exact .base (.tup h)
    · exact .fTuple h
    · exact .kTuple h1 h2
  | lst h r =>
    cases e
    obtain ⟨o, h⟩ := h
    exact .base (.frz h)
  | dct h r => cases e; exact .fDict h
  | obj h n l r =>
    cases e
    have c := hC _ _ rfl
    exact .base (.ins h c.cl c.ha c.hn c.htk c.hm)
  | scr h => cases e) only [bxI])
def clsD : D → Option Value
  | .ty n => some (.type n)
  | .cls a => some (.ref a)
  | _ => none
def fIsi (K : PySem.W.Frag) : List D → D → Prop := fun ds d => ∃ x c t u b, ds = [x, c] ∧ (∀ C fs, x = .obj C fs → IsiC K C) ∧ tyD x = some t ∧ clsD c = some u ∧ PySem.W.kitOne K t u = some b ∧ d = .bl b
theorem cd_isi : CbD K nf (rIsi K) (fIsi K) := by
  rintro H vs ds d r ⟨x, c, t, u, b, rfl, hC, e1, e2, e3, rfl⟩ Q q
  obtain ⟨v, w, rfl, h1, h2⟩ := rels2x r
  refine ⟨v, w, t, u, b, rfl, ?_, ty_of hC h1 e1, e3, q _ H (.bl _) Xt.refl⟩
  cases h2 <;> simp only [clsD] at e2 <;> cases e2
  · exact .ty _
  · exact .own _
end
end DL
namespace DL
open PySem L2
section
variable {X : Cx} {nf : NFs} [Anch nf] {K : PySem.W.Frag}
theorem pts_imp {es : List Expr} {t t' : TT} (h : PTs X es t) (i : ∀ σ H Q, t' σ H Q → t σ H Q) : PTs X es t' := ⟨fun pins s σ H Q I q => h.run pins s σ H Q I (i σ H Q q)⟩
theorem dts_nil : PTs X [] (liftB X.K nf dYes) := pts_imp pts_nil fun σ H Q ⟨env, fp, Qd, R, q, k⟩ => k true H env fp R Ch.refl q
theorem dts_one {c : Expr} {t : DB nf} (h : DC X nf c t) : PTs X [c] (liftB X.K nf t) := pts_one h
section
variable {elt tg iter : Expr} {ifs : List Expr} {scope : Scope} {own : List (Str × Nat)} {pos : Pos} {di : DAs nf} {g : DG nf} {dt : DB nf} {de dk : DT nf}
theorem de_lc (hc : X.calm = true) (hN : X.N.Nodup) (hi : DIo X nf tg iter di) (ok : BlkOk X.N X.env.scope scope own)
    (hg : ∀ (s : Shared) (H : Hp) (C : Addr) (cl : List (Str × Addr)) (fp : List Addr), DGo (X.blk s H scope (compEnvC scope cl C X.env) fp) nf tg (own.map (·.2)) g) (ht : ∀ (s : Shared) (H : Hp) (C : Addr) (cl : List (Str × Addr)) (fp : List Addr), PTs (X.blk s H scope (compEnvC scope cl C X.env) fp) ifs (liftB X.K nf dt))
    (he : ∀ (s : Shared) (H : Hp) (C : Addr) (cl : List (Str × Addr)) (fp : List Addr), DE (X.blk s H scope (compEnvC scope cl C X.env) fp) nf elt de) (hs : ∀ x, foldedSetIterable iter X.env x = pure x := by intro _; rfl) :
    DE X nf (.ListComp elt [⟨tg, iter, ifs, 0⟩] scope pos) (dLc di g dt de (own.map (·.2))) := pe_imp (pe_fz (pe_lc hc hN hi ok hg ht he hs)) fun σ H Q ⟨env, fp, Qd, R, h, k⟩ => by
  refine lift_lc R h fun p vs H' ds env' fp' hp hp' np rr R' c q => ⟨p, _, rfl, hp', trivial, fun o => ?_⟩
  have st : Stp nf H' (upd H' p (.frz o (.lst vs))) := fun a u e f => by
    by_cases ha : a = p
    · subst ha; rw [hp'] at e; cases e; exact f.elim
    · rw [upd_ne ha]; exact e
  refine k _ _ _ env' fp' (.lst ⟨o, upd_same⟩ (rr.mono st)) (R'.frame (fun a m => upd_ne fun z => np (z ▸ m)) st R.2 (c.put hp hp' pl_lst)) (c.put hp hp' pl_lst) q
/-- behind the statement the thing in slot i is frozen -/
def tFzS (i : Nat) (t : TS) : TS := fun E σ H => t { E with nx := fun σ' H' => ∃ p u, σ'[i]? = some (some (.ref p)) ∧ H' p = some u ∧ Mut (some u) ∧ ∀ o, E.nx σ' (upd H' p (.frz o u)) } σ H
theorem ps_fzS {st : Stmt} {t : TS} {i : Nat} (h : PS X st t) : PS X st (tFzS i t) := bxU (by simp (disch := with_unfolding_all
  refine ⟨fun pins s σ H E I hw => ?_⟩
  refine thn (h.run pins s σ H _ I hw) fun f s1 q => ?_
  cases f with
  | next =>
    obtain ⟨σ', H', I', p, u, _, hp, mu, q⟩ := q
    obtain ⟨o, I2⟩ := I'.lock hp mu
    exact ⟨σ', _, I2, q o⟩
  | brk => exact q
  | cont => exact q
  | ret v => exact q) only [bxI])
theorem ds_setLc {i : Nat} {y : Str} {py spos : Pos} (hc : X.calm = true) (hN : X.N.Nodup) (hy : X.N[i]? = some y) (hyl : X.env.scope.names.lookup y = some .local)
    (hsw : swapsWith (.ListComp elt [⟨tg, iter, ifs, 0⟩] scope pos) (some (.Name y py)) spos.line X.env = pure true) (hi : DIo X nf tg iter di) (ok : BlkOk X.N X.env.scope scope own)
    (hg : ∀ (s : Shared) (H : Hp) (C : Addr) (cl : List (Str × Addr)) (fp : List Addr), DGo (X.blk s H scope (compEnvC scope cl C X.env) fp) nf tg (own.map (·.2)) g) (ht : ∀ (s : Shared) (H : Hp) (C : Addr) (cl : List (Str × Addr)) (fp : List Addr), PTs (X.blk s H scope (compEnvC scope cl C X.env) fp) ifs (liftB X.K nf dt))
    (he : ∀ (s : Shared) (H : Hp) (C : Addr) (cl : List (Str × Addr)) (fp : List Addr), DE (X.blk s H scope (compEnvC scope cl C X.env) fp) nf elt de) (hs : ∀ x, foldedSetIterable iter X.env x = pure x := by intro _; rfl) :
    DS X nf (.Assign [.Name y py] (.ListComp elt [⟨tg, iter, ifs, 0⟩] scope pos) spos) (sSet i (dLc di g dt de (own.map (·.2)))) := ps_imp (ps_fzS (i := i) (ps_setLc (i := i) (g := liftG X.K nf (own.map (·.2)) g) (te := lift X.K nf de) hc hN hy hyl hsw hi ok hg ht he hs)) fun E σ H ⟨env, fp, De, R, h, br⟩ => by
  unfold tFzS tAsg
  refine lift_lc R h fun p vs H' ds env' fp' hp hp' np rr R' c ⟨hl, q⟩ => ⟨p, _, ?_, hp', trivial, fun o => ?_⟩
  · rw [List.getElem?_set_self (by rw [R'.length]; exact hl)]
  · have st : Stp nf H' (upd H' p (.frz o (.lst vs))) := fun a u e f => by
      by_cases ha : a = p
      · subst ha; rw [hp'] at e; cases e; exact f.elim
      · rw [upd_ne ha]; exact e
    have R2 := R'.frame (H' := upd H' p (.frz o (.lst vs))) (fun a m => upd_ne fun z => np (z ▸ m)) st R.2 (c.put hp hp' pl_lst)
    obtain ⟨fp3, R3, c3⟩ := R2.setFz hl (.lst ⟨o, upd_same⟩ (rr.mono st) : Rel X.K nf _ (.ref p) (.lst ds))
    refine br.nx _ _ _ fp3 R3 ((c.put hp hp' pl_lst).trans c3) q
end
def keyOf : D → Option Key
  | .int i => some (.inl i)
  | .str s => some (.inr s)
  | _ => none
theorem key_of {H : Hp} {v : V} {x : D} {k : Key} (r : Rel K nf H v x) (e : keyOf x = some k) : v = kV k := bxU (by simp (disch := with_unfolding_all
  cases r <;> simp only [keyOf] at e <;> cases e <;> rfl) only [bxI])
def valD (kds : List (Key × D)) (k : Key) : Option D := (kds.find? fun kv => decide (kv.1 = k)).map (·.2)
def putD (kds : List (Key × D)) (k : Key) (d : D) : List (Key × D) :=
  if (kds.any fun kv => decide (kv.1 = k)) = true then kds.map (fun kv => if kv.1 = k then (kv.1, d) else kv) else kds ++ [(k, d)]
theorem RelK.val {H : Hp} {k : Key} : ∀ {kvs : List (Key × V)} {kds : List (Key × D)} {d : D}, RelK K nf H kvs kds → valD kds k = some d → ∃ v, valV kvs k = some v ∧ Rel K nf H v d
  | _, _, _, .nil, e => by cases e
  | _, _, d, @RelK.cons _ _ _ k' v vs d' ds h r, e => by
    by_cases hk : k' = k
    · subst hk
      simp only [valD, List.find?_cons, decide_true, Option.map_some, Option.some.injEq] at e
      subst e
      exact ⟨v, valV_pos rfl, h⟩
    · have e' : valD ds k = some d := by simpa [valD, List.find?_cons, hk] using e
      obtain ⟨w, h1, h2⟩ := RelK.val r e'
      exact ⟨w, by rw [valV_neg hk]; exact h1, h2⟩
theorem RelK.val_none {H : Hp} {k : Key} : ∀ {kvs : List (Key × V)} {kds : List (Key × D)}, RelK K nf H kvs kds → (valV kvs k).isSome = (valD kds k).isSome
  | _, _, .nil => rfl
  | _, _, @RelK.cons _ _ _ k' v vs d' ds h r => by
    by_cases hk : k' = k
    · subst hk
      simp [valD, valV_pos]
    · rw [valV_neg hk, RelK.val_none r]
      simp [valD, List.find?_cons, hk]
theorem RelK.any {H : Hp} {k : Key} : ∀ {kvs : List (Key × V)} {kds : List (Key × D)}, RelK K nf H kvs kds → (kvs.any fun kv => decide (kv.1 = k)) = (kds.any fun kv => decide (kv.1 = k))
  | _, _, .nil => rfl
  | _, _, .cons h r => by rw [List.any_cons, List.any_cons, RelK.any r]
theorem RelK.mapPut {H : Hp} {k : Key} {v : V} {d : D} (h : Rel K nf H v d) : ∀ {kvs : List (Key × V)} {kds : List (Key × D)}, RelK K nf H kvs kds → RelK K nf H (kvs.map fun kv => if kv.1 = k then (kv.1, v) else kv) (kds.map fun kv => if kv.1 = k then (kv.1, d) else kv)
  | _, _, .nil => .nil
  | _, _, @RelK.cons _ _ _ k' v' vs d' ds h' r => by
    rw [List.map_cons, List.map_cons]
    by_cases hk : k' = k
    · rw [if_pos hk, if_pos hk]; exact .cons h (RelK.mapPut h r)
    · rw [if_neg hk, if_neg hk]; exact .cons h' (RelK.mapPut h r)
theorem RelK.append {H : Hp} : ∀ {kvs ls : List (Key × V)} {kds es : List (Key × D)}, RelK K nf H kvs kds → RelK K nf H ls es → RelK K nf H (kvs ++ ls) (kds ++ es)
  | _, _, _, _, .nil, s => s
  | _, _, _, _, .cons h r, s => .cons h (RelK.append r s)
theorem RelK.put {H : Hp} {k : Key} {v : V} {d : D} {kvs : List (Key × V)} {kds : List (Key × D)} (r : RelK K nf H kvs kds) (h : Rel K nf H v d) : RelK K nf H (putK kvs k v) (putD kds k d) := bxU (by simp (disch := with_unfolding_all
  unfold putK putD
  rw [r.any]
  split
  · exact RelK.mapPut h r
  · exact r.append (.cons h .nil)) only [bxI])
section
variable {o i : Expr} {da db : DT nf} {pos : Pos}
/-- d[k] of a frozen dict -/
def fDG : D → D → D → Prop := fun x y z => ∃ kds k, x = .dct kds ∧ keyOf y = some k ∧ valD kds k = some z
/-- k in d -/
def fDIn (neg : Bool) : D → D → D → Prop := fun y x z => ∃ kds k, x = .dct kds ∧ keyOf y = some k ∧ z = .bl (if neg then !(valD kds k).isSome else (valD kds k).isSome)
theorem od_din : OpD K nf (fun y x H2 Q => ∃ a o, x = .ref a ∧ DGet H2 a y o ∧ Q (.bl o.isSome) H2) (fDIn false) := by
  rintro H v w x y z r1 r2 ⟨kds, k, rfl, e1, rfl⟩ Q q
  cases r2 with
  | @dct a ob kvs _ ha rr =>
    have ew := key_of r1 e1
    subst ew
    refine ⟨a, valV kvs k, rfl, .inl ⟨kvs, k, .inr ⟨ob, ha⟩, rfl, rfl⟩, ?_⟩
    rw [rr.val_none]
    exact q _ H (.bl _) Xt.refl
theorem od_dnin : OpD K nf (fun y x H2 Q => ∃ a o, x = .ref a ∧ DGet H2 a y o ∧ Q (.bl (!o.isSome)) H2) (fDIn true) := by
  rintro H v w x y z r1 r2 ⟨kds, k, rfl, e1, rfl⟩ Q q
  cases r2 with
  | @dct a ob kvs _ ha rr =>
    have ew := key_of r1 e1
    subst ew
    refine ⟨a, valV kvs k, rfl, .inl ⟨kvs, k, .inr ⟨ob, ha⟩, rfl, rfl⟩, ?_⟩
    rw [rr.val_none]
    exact q _ H (.bl _) Xt.refl
end
end
end DL
namespace DL
open PySem L2
section
variable {X : Cx} {nf : NFs} [Anch nf] {K : PySem.W.Frag}
theorem wipe_wipe (σ : St) : ∀ js : List Nat, L2.wipe (L2.wipe σ js) js = L2.wipe σ js
  | [] => rfl
  | j :: js => by
    show (L2.wipe ((L2.wipe σ js).set j none) js).set j none = (L2.wipe σ js).set j none
    rw [wipe_out, List.set_set, wipe_wipe σ js]
section
variable {o e : Expr} {da db : DT nf} {apos pos : Pos}
def dSplit (da db : DT nf) : DT nf := fun env Q => da env fun x env1 => ∃ a, x = .str a ∧ db env1 fun y env2 => ∃ b, y = .str b ∧ (b.length == 0) = false ∧ a.length + 2 ≤ 1000000 ∧ Q (.lst ((Txt.split a b).map .str)) env2
theorem de_split (ho : DE X nf o da) (he : DE X nf e db) (hs : starEach [e] X.env = [(false, eval e X.env)] := by rfl) (hbase : attributeBase o "split" X.env (eval o X.env) = eval o X.env := by rfl) (hline : (apos.endLine == pos.line) = true := by rfl) :
    DE X nf (.Call (.Attribute o "split" apos) [e] [] pos) (dSplit da db) := pe_imp (pe_fz (pe_split ho he hs hbase hline)) fun σ H Q ⟨env, fp, Qd, R, h, k⟩ => by
  refine lift_run R h fun v H1 x env1 fp1 r1 R1 c1 ⟨a, ex, h1⟩ => ?_
  subst ex
  cases r1
  refine ⟨⟨a, rfl⟩, lift_run R1 h1 fun w H2 y env2 fp2 r2 R2 c2 ⟨b, ey, hb, hl, q⟩ => ?_⟩
  subst ey
  cases r2
  refine ⟨a, b, rfl, rfl, hb, Nat.le_trans hl (by decide), fun p hp => ⟨p, _, rfl, upd_same, trivial, fun ob => ?_⟩⟩
  have x : Xt H2 (upd (upd H2 p (.lst ((Txt.split a b).map V.str))) p (.frz ob (.lst ((Txt.split a b).map V.str)))) := xt_fz (Xt.new hp) hp
  exact k _ _ _ env2 fp2 (.lst ⟨ob, upd_same⟩ ((strs_rels _).mono x.stp)) (R2.ext x) ((c1.trans c2).trans x.ch) q
abbrev DO (nf : NFs) := EV nf → (Option Int → EV nf → Prop) → Prop
def liftO (K : PySem.W.Frag) (nf : NFs) [Anch nf] (td : DO nf) : TO := fun σ H Q => ∃ env fp Qd, EnvR K nf H σ env fp ∧ td env Qd ∧ ∀ o H' env' fp', EnvR K nf H' σ env' fp' → Ch nf fp H fp' H' → Qd o env' → Q o H'
theorem po_imp {e : Option Expr} {t t' : TO} (h : PO X e t) (i : ∀ σ H Q, t' σ H Q → t σ H Q) : PO X e t' := ⟨fun pins s σ H Q I q => h.run pins s σ H Q I (i σ H Q q)⟩
def oNone : DO nf := fun env Q => Q none env
def oSome (a : DT nf) : DO nf := fun env Q => a env fun x env1 => ∃ i, x = .int i ∧ Q (some i) env1
theorem do_none : PO X none (liftO X.K nf oNone) := po_imp po_none fun σ H Q ⟨env, fp, Qd, R, q, k⟩ => k none H env fp R Ch.refl q
theorem do_some {e : Expr} {a : DT nf} (h : DE X nf e a) : PO X (some e) (liftO X.K nf (oSome a)) := po_imp (po_some h) fun σ H Q ⟨env, fp, Qd, R, q, k⟩ => lift_run R q fun v H1 x env1 fp1 r1 R1 c1 ⟨i, ex, q1⟩ => by
  subst ex
  exact ⟨i, rel_int r1, k (some i) H1 env1 fp1 R1 c1 q1⟩
def dSlS (da : DT nf) (lo hi : DO nf) : DT nf := fun env Q => da env fun x env1 => lo env1 fun l env2 => hi env2 fun u env3 => ∃ z, x = .str z ∧ z.length ≤ 1000000 ∧ Q (.str (cutS z l u)) env3
theorem de_slS {lo hi : Option Expr} {dl dh : DO nf} {p2 : Pos} (ha : DE X nf e da) (hl : PO X lo (liftO X.K nf dl)) (hh : PO X hi (liftO X.K nf dh)) : DE X nf (.Subscript e (.Slice lo hi none p2) pos) (dSlS da dl dh) := bxU (by simp (disch := with_unfolding_all
  exact pe_imp (pe_slice sl_str ha hl hh) fun σ H Q ⟨env, fp, Qd, R, h, k⟩ =>
  lift_run R h fun v H1 x env1 fp1 r1 R1 c1 h1 => ⟨env1, fp1, _, R1, h1, fun l H2 env2 fp2 R2 c2 h2 => ⟨env2, fp2, _, R2, h2, fun u H3 env3 fp3 R3 c3 ⟨z, ex, hz, q⟩ => by
    subst ex
    exact ⟨z, rel_str r1, sz_ok hz, k _ H3 _ env3 fp3 (.str _) R3 ((c1.trans c2).trans c3) q⟩⟩⟩) only [bxI])
theorem op_catR : OpR X (binaryOp .Add) (fun x y H Q => ∃ l b xs zs, x = .ref l ∧ y = .ref b ∧ Rd H l (.lst xs) ∧ Rd H b (.lst zs) ∧ xs.length + zs.length ≤ sizeLine ∧ ∀ p, H p = none → Q (.ref p) (upd H p (.lst (xs ++ zs)))) := by
  intro pins s σ H x y v u Q I rx ry h
  obtain ⟨l, b, xs, zs, rfl, rfl, hH, hB, hz, q⟩ := h
  cases rx
  cases ry
  obtain ⟨_, its, n, r, e⟩ := hH.ok I.hok
  obtain ⟨_, its2, n2, r2, e2⟩ := hB.ok I.hok
  have g1 := r.length
  have g2 := r2.length
  refine PySem.P.add_list e e2 ?_ (by rw [List.size_toArray, List.size_toArray]; omega)
  have ea : its.toArray ++ its2.toArray = (its ++ its2).toArray := by simp
  rw [ea]
  exact ⟨.ref _, _, I.lnew (t' := s.toks) (r.append r2) (by rw [List.length_append]; omega), rfl, q _ I.fresh⟩
def fCatL : D → D → D → Prop := fun x y z => ∃ xs ys, x = .lst xs ∧ y = .lst ys ∧ xs.length + ys.length ≤ 1000000 ∧ z = .lst (xs ++ ys)
end
end
end DL
namespace DL
open PySem L2
section
variable {X : Cx} {nf : NFs} [Anch nf] {K : PySem.W.Frag}
def insA (K : PySem.W.Frag) (nf : NFs) (C : Addr) (fds : List (Str × D)) : OA nf where
  inv v fp H := ∃ p dx fs, v = .ref p ∧ fp = [p] ∧ H p = some (.ins C dx fs) ∧ fs.length < nf C ∧ RelF K nf H fs fds
  frame := by
    rintro v fp H H' ⟨p, dx, vs, e1, e2, hp, hl, r⟩ k st
    subst e2
    exact ⟨p, dx, vs, e1, rfl, by rw [k p (List.mem_singleton.mpr rfl)]; exact hp, hl, r.mono st⟩
  trk := by
    rintro v fp H ⟨p, dx, vs, e1, e2, hp, hl, r⟩ a m
    subst e2
    rw [List.mem_singleton.mp m]
    exact ⟨_, hp, fun z => by have := z.2; omega, nofun, nofun⟩
  nd := by
    rintro v fp H ⟨p, dx, vs, e1, e2, hp, hl, r⟩
    subst e2
    simp
section
variable {CX : CXT} {k n : Nat} {f C : Addr} {fd : FuncData} {ps : List Str} {S : SpD nf} {dvs : List V} {dds : List D} {ds : List Value} {E : XK} {x m : Str} {p pos apos : Pos} {e o : Expr} {es : List Expr} {r : DM nf} {da : DT nf}
/-- self.f = e: self an object on the way -/
def sFldS (K : PySem.W.Frag) (C : Addr) (i : Nat) (m : Str) (dv : DT nf) : DTS nf := fun De env => dv env fun d env1 => ∃ v fds, env1[i]? = some (.ow v (insA K nf C fds)) ∧ fds.lookup m = none ∧ fds.length < 999 ∧
  (fds.length + 1 < nf C → De.nx (env1.set i (.ow v (insA K nf C (fds ++ [(m, d)]))))) ∧ (fds.length + 1 = nf C → De.nx (env1.set i (.fr v (.obj C (fds ++ [(m, d)])))))
theorem RelF.length : ∀ {H : Hp} {fs : List (Str × V)} {fds : List (Str × D)}, RelF K nf H fs fds → fs.length = fds.length
  | _, _, _, .nil => rfl
  | _, _, _, .cons _ r => by rw [List.length_cons, List.length_cons, RelF.length r]
theorem RelF.snoc {H : Hp} {m : Str} {v : V} {d : D} (h : Rel K nf H v d) : ∀ {fs : List (Str × V)} {fds : List (Str × D)}, RelF K nf H fs fds → fds.lookup m = none → RelF K nf H (putF m v fs) (fds ++ [(m, d)])
  | _, _, .nil, _ => .cons h .nil
  | _, _, @RelF.cons _ _ _ k v' vs d' ds h' r, e => by
    rw [List.lookup_cons] at e
    split at e
    · cases e
    · rename_i hk
      have hne : ¬ k = m := fun z => by subst z; simp at hk
      show RelF K nf H (if k = m then (k, v) :: vs else (k, v') :: putF m v vs) ((k, d') :: (ds ++ [(m, d)]))
      rw [if_neg hne]
      exact .cons h' (RelF.snoc h r e)
theorem ds_fldS {i : Nat} {value : Expr} {dv : DT nf} {pos' : Pos} (ho : PE X o (tVar i)) (hv : DE X nf value dv) (c : Cls X.K C) (hn : NoAttr X.K C m) (hs : swapsWith value (some (.Attribute o m pos')) pos.line X.env = pure false := by rfl) : DS X nf (.Assign [.Attribute o m pos'] value pos) (sFldS X.K C i m dv) := bxU (by simp (disch := with_unfolding_all
  exact ps_imp (ps_fld ho hv hs) fun E σ H ⟨env, fp, De, R, q, br⟩ => lift_run R q fun w H1 d env1 fp1 r1 R1 c1 ⟨v, fds, ei, hl0, h9, q1, q2⟩ => by
    obtain ⟨ov, fi, e1, ⟨eo, p, dx, fs, ev, ef, hp, hlt, rf⟩, sub, rep⟩ := R1.at ei
    subst eo ev ef
    have hl := rf.length
    have es : σ.set i (some (.ref p)) = σ := by
      obtain ⟨h1, h2⟩ := List.getElem?_eq_some_iff.mp e1
      rw [← h2]
      exact List.set_getElem_self h1
    have nfz : ∀ a u, H1 a = some u → Fzn nf u → a ≠ p := fun a u h f z => by
      subst z; rw [hp] at h; cases h
      have := f.2
      omega
    have stp : Stp nf H1 (upd H1 p (.ins C dx (putF m w fs))) := fun a u h f => by rw [upd_ne (nfz a u h f)]; exact h
    have kp : ∀ a u, H1 a = some u → a ∉ [p] → upd H1 p (.ins C dx (putF m w fs)) a = some u := fun a u h n => by
      rw [upd_ne (fun z => n (by rw [z]; exact List.mem_singleton.mpr rfl))]; exact h
    have ch : ∀ fp', (∀ a ∈ fp', a ∈ fp1 ∨ H1 a = none) → Ch nf fp1 H1 fp' (upd H1 p (.ins C dx (putF m w fs))) := fun fp' sub' => Ch.of (fun a u h n => by
      rw [upd_ne (fun z => n (by rw [z]; exact sub p (List.mem_singleton.mpr rfl)))]; exact h) R1.1.pl sub' (fun a h => by
      by_cases ha : a = p
      · subst ha; rw [upd_same] at h; cases h
      · rw [upd_ne ha] at h; exact h)
    have rf2 : RelF X.K nf (upd H1 p (.ins C dx (putF m w fs))) (putF m w fs) (fds ++ [(m, d)]) := (RelF.snoc r1 rf hl0).mono stp
    have hl2 : (putF m w fs).length = fds.length + 1 := by rw [rf2.length, List.length_append]; rfl
    refine ⟨_, e1, p, C, dx, fs, rfl, hp, c, hn, by omega, ?_⟩
    by_cases hm : fds.length + 1 < nf C
    · obtain ⟨fp', R', sub'⟩ := rep _ (some (.ref p)) (.ow (.ref p) (insA X.K nf C (fds ++ [(m, d)]))) [p] ⟨rfl, p, dx, _, rfl, rfl, upd_same, by omega, rf2⟩ kp (fun a m => .inl m) stp
      rw [es] at R'
      exact br.nx σ _ _ fp' (R1.re R' (ch fp' sub')) (c1.trans (ch fp' sub')) (q1 hm)
    · have hm' : fds.length + 1 = nf C := by omega
      obtain ⟨fp', R', sub'⟩ := rep _ (some (.ref p)) (.fr (.ref p) (.obj C (fds ++ [(m, d)]))) [] ⟨rfl, rfl, .obj upd_same (by omega) (by omega) rf2⟩ kp (fun a m => by cases m) stp
      rw [es] at R'
      exact br.nx σ _ _ fp' (R1.re R' (ch fp' sub')) (c1.trans (ch fp' sub')) (q2 hm')) only [bxI])
end
open PySem.W PySem.Calls PyProof.Rows in
theorem binT_looks {prog : Program} {w : World} {A : Around} {E : Value → Shared → Prop} {s : Shared} {K : Frag} {x C L f : Addr} {h₀ : Heap} {m : Str → Option Value} {ox : Obj} {od : Option Obj} {T : String} {op : Operator} {b : Value} {fo ro rc : Option Value} {Q : Value → Shared → Prop} (F : Fr h₀ L s.heap m) (X₀ : K.In h₀) (I : InstAt s.heap x ox C od) (hb : Looks (model prog w) s.heap (typeOf b) (.type T)) (hc : selfFirst K C = true)
    (hs : findIn K (.ref C) (PySem.dunder op.info.2) = some (some (.ref f))) (hf : isFn K (.ref f) = true) (hr : findIn K (.ref C) (dunderR op.info.2) = some rc) (hp : rc = none ∨ ∃ g : Addr, rc = some (.ref g))
    (h1 : findIn K (.type T) (PySem.dunder op.info.2) = some fo) (h2 : findIn K (.type T) (dunderR op.info.2) = some ro) (hsub : subIn K (.type T) (.ref C) = some false)
    (h : wpAny (model prog w) A (call (.ref f) [.ref x, b]) (PySem.W.CmpBack Q) E s) : wpAny (model prog w) A (binaryOp op (.ref x) b) Q E s := bxU (by simp (disch := with_unfolding_all
  have X := X₀.keeps F.keep
  obtain ⟨cd, rest, hcd, hm⟩ := ksp_first hc
  rcases hi : op.info with ⟨sym, nm'⟩
  rw [hi] at hs hr h1 h2
  dsimp only at hs hr h1 h2
  have one := ksp_try X I hs hf h
  obtain ⟨hh, g, d, tt, os⟩ := s
  have L1 : Looks (model prog w) hh (typeOf (.ref x)) (.ref C) := I.type
  have L2 : Looks (model prog w) hh (typeOf b) (.type T) := hb
  have L3 : Looks (model prog w) hh (fillsNumberSlot (.ref C) nm') true := fills_K X hcd hm hs
  have L4 : Looks (model prog w) hh (fillsNumberSlot (.type T) nm') ((fo.isSome && !isSeqSlot fo) || (ro.isSome && !isSeqSlot ro)) := ksp_fillsT X h1 h2
  have L5 : Looks (model prog w) hh (isSubtype (.type T) (.ref C)) false := looks_subIn X hsub
  have L6 : Looks (model prog w) hh (numberSlotInPython (.ref C) nm') true := ksp_inPy X hs hr hp
  have L7 : Looks (model prog w) hh (numberSlotInPython (.type T) nm') false := Looks.of_pure rfl
  have L8 : Looks (model prog w) hh (typeLookup (.type T) (dunderR nm')) ro := looks_findIn X h2
  generalize ((fo.isSome && !isSeqSlot fo) || (ro.isSome && !isSeqSlot ro)) = right at L4
  have hne : (Value.ref C == Value.type T) = false := Bool.eq_false_iff.mpr fun q => by cases beq_iff_eq.mp q
  simp only [binaryOp, hi]
  refine wpAny_holding (wpAny_bind ?_)
  unfold binaryOp1
  refine wpAny_bind (L1.at (wpAny_bind (L2.at (wpAny_bind (L3.at ?_)))))
  simp only [hne, Bool.false_eq_true, if_false]
  cases right with
  | false =>
    ksp_lk
    refine wpAny_mono one (fun r s' hr' => ?_) fun _ _ e => e
    obtain ⟨v, rfl, hq⟩ := hr'
    ksp_lk
    exact hq
  | true =>
    ksp_lk
    refine wpAny_mono one (fun r s' hr' => ?_) fun _ _ e => e
    obtain ⟨v, rfl, hq⟩ := hr'
    ksp_lk
    exact hq) only [bxI])
end
end DL
namespace DL
open PySem
open L2
end DL
namespace DL
open PySem L2
section
variable {X : Cx} {nf : NFs} [Anch nf] {K : PySem.W.Frag} {CX : CXT} {k : Nat} {f C : Addr} {fd : FuncData} {ps : List Str} {sp : Sp} {E : XK} {op : Operator}
theorem cmpBack_of {pins : List (Addr × Obj)} {σ : St} {Q : VK} {u : Value} {s' : Shared} (h : EP X pins σ Q u s') : PySem.W.CmpBack (EP X pins σ Q) u s' := bxU (by simp (disch := with_unfolding_all
  obtain ⟨v, H', I, r, q⟩ := id h
  cases v with
  | non => have r : u = _ := r; subst r; exact h
  | bl b => have r : u = _ := r; subst r; exact h
  | int i => obtain ⟨t, r⟩ := r; subst r; exact h
  | str i => obtain ⟨t, r⟩ := r; subst r; exact h
  | byt i => obtain ⟨t, r⟩ := r; subst r; exact h
  | flt i => obtain ⟨t, r⟩ := r; subst r; exact h
  | ref a => have r : u = _ := r; subst r; exact h
  | ty a => have r : u = _ := r; subst r; exact h) only [bxI])
theorem rv_ref (a : Addr) : RelV (.ref a) (.ref a) := rfl
/-- an own class has the operator -/
structure OpC (K : PySem.W.Frag) (C : Addr) (nm : String) (f : Addr) : Prop where
  sf : PySem.W.selfFirst K C = true
  hs : PySem.W.findIn K (.ref C) (PySem.dunder nm) = some (some (.ref f))
  hf : PySem.W.isFn K (.ref f) = true
structure OpT (K : PySem.W.Frag) (C : Addr) (nm T : String) (rc fo ro : Option Value) : Prop where
  hr : PySem.W.findIn K (.ref C) (dunderR nm) = some rc
  hp : rc = none ∨ ∃ g : Addr, rc = some (.ref g)
  h1 : PySem.W.findIn K (.type T) (PySem.dunder nm) = some fo
  h2 : PySem.W.findIn K (.type T) (dunderR nm) = some ro
  hsub : PySem.W.subIn K (.type T) (.ref C) = some false
def isO (C : Addr) (d : D) : Prop := ∃ fs, d = .obj C fs
variable {a b : Expr} {pos : Pos} {da db : DT nf} {S : SpD nf}
end
end DL
namespace DL
open PySem L2
section
variable {X : Cx} {nf : NFs} [Anch nf] {K : PySem.W.Frag}
theorem de_gint {x : Str} {i : Int} {t : _} {pos : Pos} (hg : Gl X x) (hm : X.mg x = some (.int i t)) (hd : (x == ("__debug__" : Str)) = false := by decide) : DE X nf (.Name x pos) (dC (.int i)) := de_c (v := .int i) (pe_glob hg hm ⟨t, rfl⟩ hd) fun _ => .int i
theorem de_gstr {x : Str} {i : Str} {t : _} {pos : Pos} (hg : Gl X x) (hm : X.mg x = some (.str i t)) (hd : (x == ("__debug__" : Str)) = false := by decide) : DE X nf (.Name x pos) (dC (.str i)) := de_c (v := .str i) (pe_glob hg hm ⟨t, rfl⟩ hd) fun _ => .str i
theorem de_gref {x : Str} {a : Addr} {pos : Pos} (hg : Gl X x) (hm : X.mg x = some (.ref a)) (hd : (x == ("__debug__" : Str)) = false := by decide) : DE X nf (.Name x pos) (dC (.cls a)) := de_c (v := .ref a) (pe_glob hg hm rfl hd) fun _ => .cls a
theorem de_bty {x : Str} {T : String} {pos : Pos} (hg : Gl X x) (hm : X.mg x = none) (hv : bootBuiltins x = some (.type T)) (hn : x ≠ "__name__" := by decide) (hd : (x == ("__debug__" : Str)) = false := by decide) : DE X nf (.Name x pos) (dC (.ty T)) :=
  de_c (v := .ty T) (pe_bltn hg hm hv rfl hn hd) fun _ => .ty T
theorem de_gany {x : Str} {p : Addr} {d : D} {pos : Pos} (hg : Gl X x) (hm : X.mg x = some (.ref p)) (r : ∀ H, Rel X.K nf H (.ref p) d) (hd : (x == ("__debug__" : Str)) = false := by decide) : DE X nf (.Name x pos) (dC d) := de_c (v := .ref p) (pe_glob hg hm rfl hd) r
theorem op_eqDR (hu : X.A.units < cLine) : OpR X (compareOp .Eq) (fun x y H Q => ∃ a b ks ls, x = .ref a ∧ y = .ref b ∧ Rd H a (.dK ks) ∧ Rd H b (.dK ls) ∧ ks.length = ls.length ∧ (∀ p ∈ ks, valV ls p.1 = some p.2 ∧ flatB p.2 = true) ∧ Q (.bl true) H) := by
  intro pins s σ H x y v u Q I rx ry h
  obtain ⟨a, b, ks, ls, rfl, rfl, ea, eb, hlen, hp, q⟩ := h
  obtain rfl : v = Value.ref a := rx
  obtain rfl : u = Value.ref b := ry
  obtain ⟨_, ya, va, ra, da⟩ := dk_rd I.hok ea
  obtain ⟨_, yb, vb, rb, db⟩ := dk_rd I.hok eb
  have hl : va.length = vb.length := by rw [← ra.length, ← rb.length]; exact hlen
  exact PySem.W.keq_eq (knd := mixKind X.prog X.w) (r := true) ya yb da db hu (fun _ => hits_all rb ra hp) (fin_bl I q (by simp [hl]))
theorem op_neDR (hu : X.A.units < cLine) : OpR X (compareOp .NotEq) (fun x y H Q => ∃ a b ks ls, x = .ref a ∧ y = .ref b ∧ Rd H a (.dK ks) ∧ Rd H b (.dK ls) ∧ ks.length = ls.length ∧ (∀ p ∈ ks, valV ls p.1 = some p.2 ∧ flatB p.2 = true) ∧ Q (.bl false) H) := by
  intro pins s σ H x y v u Q I rx ry h
  obtain ⟨a, b, ks, ls, rfl, rfl, ea, eb, hlen, hp, q⟩ := h
  obtain rfl : v = Value.ref a := rx
  obtain rfl : u = Value.ref b := ry
  obtain ⟨_, ya, va, ra, da⟩ := dk_rd I.hok ea
  obtain ⟨_, yb, vb, rb, db⟩ := dk_rd I.hok eb
  have hl : va.length = vb.length := by rw [← ra.length, ← rb.length]; exact hlen
  exact PySem.W.keq_ne (knd := mixKind X.prog X.w) (r := true) ya yb da db hu (fun _ => hits_all rb ra hp) (fin_bl I q (by simp [hl]))
def sameDct (ks ls : List (Key × D)) : Prop := ks.length = ls.length ∧ ∀ p ∈ ks, ∃ v, flatD p.2 = some v ∧ (valD ls p.1).bind flatD = some v
def fEqDct (r : Bool) : D → D → D → Prop := fun x y z => ∃ ks ls, x = .dct ks ∧ y = .dct ls ∧ sameDct ks ls ∧ z = .bl r
theorem flatB_of {v : V} (h : flatV v = true) : flatB v = true := bxU (by simp (disch := with_unfolding_all (cases v <;> simp_all [flatV, flatB])) only [bxI])
theorem same_of {H : Hp} {ks ls : List (Key × D)} {kvs lvs : List (Key × V)} (hk : RelK K nf H kvs ks) (hl : RelK K nf H lvs ls) (s : ∀ p ∈ ks, ∃ v, flatD p.2 = some v ∧ (valD ls p.1).bind flatD = some v) : ∀ p ∈ kvs, valV lvs p.1 = some p.2 ∧ flatB p.2 = true := bxU (by simp (disch := with_unfolding_all
  intro p m
  obtain ⟨i, hi, e⟩ := List.mem_iff_getElem.mp m
  obtain ⟨d, ed, r⟩ := hk.getV (i := i) (k := p.1) (v := p.2) (by rw [List.getElem?_eq_getElem hi, e])
  obtain ⟨v, e1, e2⟩ := s (p.1, d) (List.mem_of_getElem? ed)
  obtain ⟨ev, fv⟩ := flat_of r e1
  cases q : valD ls p.1 with
  | none => rw [q] at e2; cases e2
  | some d2 =>
    rw [q] at e2
    obtain ⟨w, ew, rw2⟩ := hl.val q
    obtain ⟨ev2, _⟩ := flat_of rw2 e2
    refine ⟨?_, flatB_of fv⟩
    rw [ew, ev2, ev]) only [bxI])
theorem od_eqDct : OpD K nf (fun x y H Q => ∃ a b ks ls, x = .ref a ∧ y = .ref b ∧ Rd H a (.dK ks) ∧ Rd H b (.dK ls) ∧ ks.length = ls.length ∧ (∀ p ∈ ks, valV ls p.1 = some p.2 ∧ flatB p.2 = true) ∧ Q (.bl true) H) (fEqDct true) := by
  rintro H v w x y z r1 r2 ⟨ks, ls, rfl, rfl, ⟨s1, s2⟩, rfl⟩ Q q
  cases r1 with
  | dct h1 rr1 =>
    cases r2 with
    | dct h2 rr2 => exact ⟨_, _, _, _, rfl, rfl, .inr ⟨_, h1⟩, .inr ⟨_, h2⟩, by rw [rr1.length, rr2.length, s1], same_of rr1 rr2 s2, q _ H (.bl true) Xt.refl⟩
theorem od_neDct : OpD K nf (fun x y H Q => ∃ a b ks ls, x = .ref a ∧ y = .ref b ∧ Rd H a (.dK ks) ∧ Rd H b (.dK ls) ∧ ks.length = ls.length ∧ (∀ p ∈ ks, valV ls p.1 = some p.2 ∧ flatB p.2 = true) ∧ Q (.bl false) H) (fEqDct false) := by
  rintro H v w x y z r1 r2 ⟨ks, ls, rfl, rfl, ⟨s1, s2⟩, rfl⟩ Q q
  cases r1 with
  | dct h1 rr1 =>
    cases r2 with
    | dct h2 rr2 => exact ⟨_, _, _, _, rfl, rfl, .inr ⟨_, h1⟩, .inr ⟨_, h2⟩, by rw [rr1.length, rr2.length, s1], same_of rr1 rr2 s2, q _ H (.bl false) Xt.refl⟩
variable {a b : Expr} {pos : Pos} {da db : DT nf}
end
end DL
namespace DL
open PySem L2
section
variable {X : Cx} {nf : NFs} [Anch nf] {K : PySem.W.Frag}
abbrev SpO (nf : NFs) := List (SD nf) → (SD nf → List (SD nf) → Prop) → Prop
def toSpO (K : PySem.W.Frag) (nf : NFs) (n : Nat) (S : SpO nf) : Sp := fun vs H Q _ => vs.length = n ∧ ∃ as fp Qd, as.length = n ∧ EnvL K nf H (vs.map some) as fp ∧ S as Qd ∧
  ∀ v H' s as' fi fp', as'.length = n → SlotR K nf H' (some v) fi s → EnvL K nf H' (vs.map some) as' fp' → (∀ a ∈ fi, a ∉ fp') → Ch nf fp H (fi ++ fp') H' → Qd s as' → Q v H'
def fnEndsO (as : List (SD nf)) (Qd : SD nf → List (SD nf) → Prop) : EndsD nf where
  nx env := BackOk as env ∧ Qd (.fz .non) (back as env)
  rt d env := BackOk as env ∧ Qd (.fz d) (back as env)
  ro v A env := BackOk as env ∧ Qd (.ow v A) (back as env)
theorem Ch.less {H H' : Hp} {fp f1 f2 : List Addr} (c : Ch nf fp H f1 H') (s : ∀ a ∈ f2, a ∈ f1) : Ch nf fp H f2 H' := ⟨c.keep, fun a m => c.sub a (s a m), c.there, c.tab⟩
end
section
variable {X : Cx} {nf : NFs} {K : PySem.W.Frag}
theorem body_okO {body : List Stmt} {td : DTS nf} {N : List Str} {n : Nat} {S : SpO nf} (h : DSs X nf body td) (hn : n ≤ N.length) (hb : ∀ as Qd, as.length = n → S as Qd → td (fnEndsO as Qd) (as ++ List.replicate (N.length - n) .un))
    {vs : List V} {H : Hp} {Q : VK} {E : XK} (hs : toSpO X.K nf n S vs H Q E) : ∃ t, PSs X body t ∧ t { nx := fun _ H' => Q .non H', rt := Q } (start N vs) H := bxU (by simp (disch := with_unfolding_all
  obtain ⟨hv, as, fp, Qd, hl, R, s, k⟩ := hs
  refine ⟨_, h, as ++ List.replicate (N.length - n) .un, fp, fnEndsO as Qd, ⟨?_, trivial⟩, hb as Qd hl s, ?_⟩
  · have := R.pad (N.length - n)
    rw [← hv] at this ⊢
    exact this
  · refine ⟨fun σ' H' env' fp' R' c ⟨b, q⟩ => ?_, fun v d σ' H' env' fp' r R' c ⟨b, q⟩ => ?_, fun σ' H' env' fp' R' c q => q.elim, fun σ' H' env' fp' R' c q => q.elim, fun v A σ' H' env' fp' fi hi R' hn' c ⟨b, q⟩ => ?_⟩
    · obtain ⟨fq, R2, sub⟩ := EnvL.back (c.stpL (R.pad (N.length - n))) R R'.1 b
      exact k .non H' (.fz .non) _ [] fq (by rw [back_len, hl]) ⟨rfl, _, rfl, .non⟩ R2 (fun a m => by cases m) (c.less sub) q
    · obtain ⟨fq, R2, sub⟩ := EnvL.back (c.stpL (R.pad (N.length - n))) R R'.1 b
      exact k v H' (.fz d) _ [] fq (by rw [back_len, hl]) ⟨rfl, _, rfl, r⟩ R2 (fun a m => by cases m) (c.less sub) q
    · have c' : Ch nf fp H fp' H' := c.less fun a m => List.mem_append_right _ m
      obtain ⟨fq, R2, sub⟩ := EnvL.back (c'.stpL (R.pad (N.length - n))) R R'.1 b
      refine k v H' (.ow v A) _ fi fq (by rw [back_len, hl]) ⟨rfl, hi⟩ R2 (fun a m z => hn' a m (sub a z)) (c.less fun a m => ?_) q
      rcases List.mem_append.mp m with z | z
      · exact List.mem_append_left _ z
      · exact List.mem_append_right _ (sub a z)) only [bxI])
end
section
variable {X : Cx} {nf : NFs} [Anch nf] {K : PySem.W.Frag}
/-- slot i gets a thing that stands apart from all -/
theorem EnvL.put {H : Hp} {σ : St} {env : EV nf} {fp : List Addr} (R : EnvL K nf H σ env fp) : ∀ {i : Nat} {v : V} {s : SD nf} {fi : List Addr}, i < env.length → SlotR K nf H (some v) fi s → (∀ a ∈ fi, a ∉ fp) →
    ∃ fp', EnvL K nf H (σ.set i (some v)) (env.set i s) fp' ∧ ∀ a ∈ fp', a ∈ fi ∨ a ∈ fp := by
  induction R with
  | nil => intro i v s fi h; simp at h
  | @cons o σ s0 env fp0 fq hs he hd ih =>
    intro i v s fi h hs' hn
    cases i with
    | zero =>
      refine ⟨fi ++ fq, .cons hs' he fun a m z => hn a m (List.mem_append_right _ z), fun a m => ?_⟩
      rcases List.mem_append.mp m with m | m
      · exact .inl m
      · exact .inr (List.mem_append_right _ m)
    | succ i =>
      obtain ⟨fp', R', sub⟩ := ih (i := i) (v := v) (s := s) (fi := fi) (by simpa using h) hs' fun a m z => hn a m (List.mem_append_right _ z)
      refine ⟨fp0 ++ fp', .cons hs R' fun a m z => ?_, fun a m => ?_⟩
      · rcases sub a z with q | q
        · exact hn a q (List.mem_append_left _ m)
        · exact hd a m q
      · rcases List.mem_append.mp m with m | m
        · exact .inr (List.mem_append_left _ m)
        · exact (sub a m).imp id (List.mem_append_right _)
/-- slot i is taken out -/
theorem EnvL.take {H : Hp} {σ : St} {env : EV nf} {fp : List Addr} (R : EnvL K nf H σ env fp) : ∀ {i : Nat} {v : V} {A : OA nf}, env[i]? = some (.ow v A) →
    ∃ fi fp', σ[i]? = some (some v) ∧ A.inv v fi H ∧ EnvL K nf H σ (env.set i .un) fp' ∧ (∀ a ∈ fi, a ∉ fp') ∧ ∀ a, a ∈ fi ++ fp' → a ∈ fp := by
  induction R with
  | nil => intro i v s h; simp at h
  | @cons o σ s0 env fp0 fq hs he hd ih =>
    intro i v A h
    cases i with
    | zero =>
      simp at h
      subst h
      exact ⟨fp0, [] ++ fq, by simp [hs.1], hs.2, (EnvL.cons (show SlotR K nf H o [] .un from rfl) he (fun a m => by cases m)), (fun a m z => hd a m z), fun a m => m⟩
    | succ i =>
      obtain ⟨fi, fp', e1, hi, R', hn, sub⟩ := ih (i := i) (v := v) (A := A) (by simpa using h)
      refine ⟨fi, fp0 ++ fp', by simpa using e1, hi, .cons hs R' fun a m z => hd a m (sub a (List.mem_append_right _ z)), fun a m z => ?_, fun a m => ?_⟩
      · rcases List.mem_append.mp z with z | z
        · exact hd a z (sub a (List.mem_append_left _ m))
        · exact hn a m z
      · rcases List.mem_append.mp m with m | m
        · exact List.mem_append_right _ (sub a (List.mem_append_left _ m))
        · rcases List.mem_append.mp m with m | m
          · exact List.mem_append_left _ m
          · exact List.mem_append_right _ (sub a (List.mem_append_right _ m))
/-- return [..], one's own -/
def sRetL (K : PySem.W.Frag) (r : DAs nf) : DTS nf := fun De env => r env fun xs env1 => xs.length ≤ 1000000 ∧ ∀ p, De.ro (.ref p) (lstA K nf xs) env1
theorem ds_retL {es : List Expr} {r : DAs nf} {lpos pos : Pos} (h : DA X nf es r) : DS X nf (.Return (some (.List es lpos)) pos) (sRetL X.K r) := bxU (by simp (disch := with_unfolding_all
  exact ps_imp (ps_ret (pe_lst h)) fun E σ H ⟨env, fp, De, R, q, br⟩ =>
  ⟨env, fp, _, R, q, fun vs H1 ds env1 fp1 r1 R1 c1 ⟨hl, q1⟩ => ⟨by rw [r1.length]; exact sz_ok hl, fun p hp => by
    have x : Xt H1 (upd H1 p (.lst vs)) := Xt.new hp
    have np : p ∉ fp1 := fun m => by obtain ⟨u, e, _⟩ := R1.trk p m; rw [hp] at e; cases e
    refine br.ro (.ref p) (lstA X.K nf ds) σ _ env1 fp1 [p] ⟨p, vs, rfl, rfl, upd_same, r1.mono x.stp⟩ (R1.ext x) (fun a m z => np (by rw [List.mem_singleton.mp m] at z; exact z)) ?_ (q1 p)
    have c2 := c1.trans (x.ch (fp := fp1))
    refine ⟨c2.keep, fun a m => ?_, c2.there, c2.tab⟩
    rcases List.mem_append.mp m with m | m
    · rw [List.mem_singleton.mp m]; exact .inr (c1.there p hp)
    · exact c2.sub a m⟩⟩) only [bxI])
end
end DL
namespace DL
open PySem L2
section
variable {X : Cx} {nf : NFs} [Anch nf] {K : PySem.W.Frag}
/-- xs[i], by values, the place not below 0 -/
theorem get_list : PGet X (fun o i H Q => ∃ p xs k z, o = .ref p ∧ i = .int k ∧ SqL X.K H p xs ∧ 0 ≤ k ∧ xs[k.toNat]? = some z ∧ Q z H) := by
  intro pins s σ H o i ov iv Q I ro ri h
  obtain ⟨p, xs, k, z, rfl, rfl, hq, h0, he, q⟩ := h
  cases ro
  obtain ⟨t, rfl⟩ := ri
  obtain ⟨its, r, pl, hz⟩ := I.list hq
  obtain ⟨w, ew, rw'⟩ := r.get he
  have hl := r.length
  have hn := line63
  have hlt : k.toNat < xs.length := (List.getElem?_eq_some_iff.mp he).1
  exact wpAny_getItem_list pl.isList h0 (by omega) (by simpa using ew) ⟨z, H, I, rw', q⟩
theorem Rels.set {H : Hp} {v : V} {d : D} (h : Rel K nf H v d) : ∀ {vs : List V} {ds : List D} (i : Nat), Rels K nf H vs ds → Rels K nf H (vs.set i v) (ds.set i d)
  | _, _, _, .nil => .nil
  | _, _, 0, .cons _ r => .cons h r
  | _, _, i + 1, .cons h' r => .cons h' (Rels.set h i r)
def sLPut (K : PySem.W.Frag) (i : Nat) (db dv : DT nf) : DTS nf := fun De env => dv env fun d env1 => (∃ v xs, env1[i]? = some (.ow v (lstA K nf xs))) ∧ db env1 fun y env2 => ∃ v xs k j, env2[i]? = some (.ow v (lstA K nf xs)) ∧ y = .int k ∧ ixN xs.length k = some j ∧ De.nx (env2.set i (.ow v (lstA K nf (xs.set j d))))
theorem ds_lput {i : Nat} {o ix value : Expr} {db dv : DT nf} {pos pos' : Pos} (ho : PE X o (tVar i)) (hi : DE X nf ix db) (hv : DE X nf value dv) (hs : swapsWithSole [.Subscript o ix pos'] value pos.line X.env = pure false := by rfl) (hw : swappedStores [.Subscript o ix pos'] value X.env = pure none := by rfl)
    (h1 : (assignEach [.Subscript o ix pos'] X.env).map (·.2) = [assign (.Subscript o ix pos') X.env] := by rfl)
    (ha : ∀ v, assign (.Subscript o ix pos') X.env v = (do
      let ov ← holding [v] (eval o X.env)
      let iv ← holding [v, ov] (eval ix X.env)
      standAt pos'
      holding [v, ov, iv] (setItem ov iv v)
      release [v, ov, iv] []) := by intro _; rfl) :
    DS X nf (.Assign [.Subscript o ix pos'] value pos) (sLPut X.K i db dv) := bxU (by simp (disch := with_unfolding_all
  exact ps_imp (ps_asg hv (pg_sub ho hi set_list ha) hs hw h1) fun E σ H ⟨env, fp, De, R, q, br⟩ =>
  lift_run R q fun w H1 d env1 fp1 r1 R1 c1 ⟨⟨v0, xs0, e0⟩, q1⟩ => by
    obtain ⟨p0, _, _, es0, _, _, _⟩ := R1.lstAt e0
    refine ⟨_, es0, lift_run R1 q1 fun u H2 y env2 fp2 r2 R2 c2 ⟨v, xs, k, j, e2, ek, hj, q2⟩ => ?_⟩
    obtain ⟨p, vs, ev, es, hp, rr, rep⟩ := R2.lstAt e2
    rw [es0] at es
    cases es
    subst ek
    have eu := rel_int r2
    subst eu
    obtain ⟨fp3, R3, c3⟩ := rep (vs.set j w) (xs.set j d) (Rels.set (r1.mono (c2.stp R1)) j rr)
    exact ⟨p0, vs, k, j, rfl, rfl, hp, by rw [rr.length]; exact hj, br.nx σ _ _ fp3 R3 ((c1.trans c2).trans c3) q2⟩) only [bxI])
def sLAug (K : PySem.W.Frag) (i : Nat) (k : Int) (dv : DT nf) : DTS nf := fun De env => ∃ v xs z, env[i]? = some (.ow v (lstA K nf xs)) ∧ 0 ≤ k ∧ xs[k.toNat]? = some (.int z) ∧ dv env fun d env1 => ∃ y xs1, d = .int y ∧ env1[i]? = some (.ow v (lstA K nf xs1)) ∧ k.toNat < xs1.length ∧ De.nx (env1.set i (.ow v (lstA K nf (xs1.set k.toNat (.int (z + y))))))
theorem ds_laug {i : Nat} {k : Int} {o value : Expr} {dv : DT nf} {j} {pos pos' ipos : Pos} (ho : PE X o (tVar i)) (hv : DE X nf value dv)
    (ha : ∀ ov iv new, augStore (.Constant (.int k) j ipos) ov iv new = (do holding [new, ov, iv] (setItem ov iv new); release [new, ov, iv] []; pure .next) := by intros; rfl) :
    DS X nf (.AugAssign (.Subscript o (.Constant (.int k) j ipos) pos') .Add value pos) (sLAug X.K i k dv) := ps_imp (ps_augS ho pe_int get_list hv ip_add set_list ha) fun E σ H ⟨env, fp, De, R, ⟨v, xs, z, e0, hk, hz, q⟩, br⟩ => by
  obtain ⟨p0, vs0, ev0, es0, hp0, rr0, _⟩ := R.lstAt e0
  subst ev0
  obtain ⟨u, eu, ru⟩ := rr0.get hz
  have eu2 := rel_int ru
  subst eu2
  refine ⟨_, es0, p0, vs0, k, _, rfl, rfl, SqL.of hp0, hk, eu, lift_run R q fun w H1 d env1 fp1 r1 R1 c1 ⟨y, xs1, ed, e1, hlt, q1⟩ => ?_⟩
  subst ed
  have ew := rel_int r1
  subst ew
  obtain ⟨p, vs, ev, es, hp, rr, rep⟩ := R1.lstAt e1
  rw [es0] at es
  cases es
  obtain ⟨fp3, R3, c3⟩ := rep (vs.set k.toNat (.int (z + y))) (xs1.set k.toNat (.int (z + y))) (Rels.set (.int _) _ rr)
  refine ⟨z, y, rfl, rfl, p0, vs, k, k.toNat, rfl, rfl, hp, ?_, br.nx σ _ _ fp3 R3 (c1.trans c3) q1⟩
  unfold ixN
  rw [if_pos hk, if_pos (by rw [rr.length]; omega)]
def stA (nf : NFs) (gr : List Int) (x n sd : Int) : OA nf where
  inv v fp H := ∃ t g, v = .ref t ∧ fp = [t, g] ∧ t ≠ g ∧ H t = some (.lst [.ref g, .int x, .int n, .int sd]) ∧ H g = some (.lst (gr.map .int))
  frame := by
    rintro v fp H H' ⟨t, g, e1, e2, ne, ht, hg⟩ k st
    subst e2
    exact ⟨t, g, e1, rfl, ne, by rw [k t (by simp)]; exact ht, by rw [k g (by simp)]; exact hg⟩
  trk := by
    rintro v fp H ⟨t, g, e1, e2, ne, ht, hg⟩ a m
    subst e2
    rcases List.mem_cons.mp m with m | m
    · subst m; exact ⟨_, ht, fun z => z, nofun, nofun⟩
    · rw [List.mem_singleton.mp m]; exact ⟨_, hg, fun z => z, nofun, nofun⟩
  nd := by
    rintro v fp H ⟨t, g, e1, e2, ne, ht, hg⟩
    subst e2
    simp [ne]
def stP (gr : List Int) (x n sd : Int) (j : Int) (z : Int) : OA nf := if j = 1 then stA nf gr z n sd else if j = 2 then stA nf gr x z sd else stA nf gr x n z
end
end DL
namespace DL
open PySem L2
section
variable {X : Cx} {nf : NFs} [Anch nf] {K : PySem.W.Frag}
/-- the answer as it is, or frozen if it is a new thing -/
def orFz (Q : VK) : VK := fun v H' => Q v H' ∨ ∃ p u, v = .ref p ∧ H' p = some u ∧ Mut (some u) ∧ ∀ o, Q v (upd H' p (.frz o u))
def tFzO (t : TE) : TE := fun σ H Q => t σ H (orFz Q)
theorem pe_fzO {e : Expr} {t : TE} (h : PE X e t) : PE X e (tFzO t) := bxU (by simp (disch := with_unfolding_all
  refine ⟨fun pins s σ H Q I hw => ?_⟩
  refine thn (h.run pins s σ H _ I hw) fun v s1 ⟨x, H1, I1, r, q⟩ => ?_
  rcases q with q | ⟨p, u, ex, hp, mu, q⟩
  · exact ⟨x, H1, I1, r, q⟩
  · obtain ⟨o, I2⟩ := I1.lock hp mu
    exact ⟨x, _, I2, r, q o⟩) only [bxI])
def rFzO (r : R2) : R2 := fun x y H Q => r x y H (orFz Q)
theorem OpD.or {r r' : R2} {f f' : D → D → D → Prop} (h : OpD K nf r f) (h' : OpD K nf r' f') : OpD K nf (fun x y H Q => r x y H Q ∨ r' x y H Q) (fun x y z => f x y z ∨ f' x y z) := by
  rintro H v w x y z r1 r2 (q | q) Q k
  · exact .inl (h H v w x y z r1 r2 q Q k)
  · exact .inr (h' H v w x y z r1 r2 q Q k)
theorem OpD.imp {r : R2} {f f' : D → D → D → Prop} (h : OpD K nf r f) (i : ∀ x y z, f' x y z → f x y z) : OpD K nf r f' := fun H v w x y z r1 r2 q Q k => h H v w x y z r1 r2 (i x y z q) Q k
/-- an operation whose answer is a D by a function -/
def fF (g : D → D → Option D) : D → D → D → Prop := fun x y z => g x y = some z
def dF (g : D → D → Option D) (da db : DT nf) : DT nf := fun env Q => da env fun x env1 => db env1 fun y env2 => ∃ z, g x y = some z ∧ Q z env2
def addD : D → D → Option D
  | .int i, .int j => some (.int (i + j))
  | .str a, .str b => if a.length + b.length ≤ 1000000 then some (.str (a ++ b)) else none
  | .lst xs, .lst ys => if xs.length + ys.length ≤ 1000000 then some (.lst (xs ++ ys)) else none
  | _, _ => none
theorem od_catR : OpD K nf (rFzO fun x y H Q => ∃ l b xs zs, x = .ref l ∧ y = .ref b ∧ Rd H l (.lst xs) ∧ Rd H b (.lst zs) ∧ xs.length + zs.length ≤ sizeLine ∧ ∀ p, H p = none → Q (.ref p) (upd H p (.lst (xs ++ zs)))) fCatL := by
  rintro H v w x y z r1 r2 ⟨xs, ys, rfl, rfl, hl, rfl⟩ Q q
  cases r1 with
  | @lst a vs _ h1 rr1 =>
    cases r2 with
    | @lst b ws _ h2 rr2 =>
      refine ⟨a, b, vs, ws, rfl, rfl, h1.rd, h2.rd, by rw [rr1.length, rr2.length]; exact sz_ok hl, fun p hp => .inr ⟨p, _, rfl, upd_same, trivial, fun o => ?_⟩⟩
      have xt : Xt H (upd (upd H p (.lst (vs ++ ws))) p (.frz o (.lst (vs ++ ws)))) := xt_fz (Xt.new hp) hp
      exact q _ _ (.lst ⟨o, upd_same⟩ ((rr1.append rr2).mono xt.stp)) xt
theorem op_addG : OpR X (binaryOp .Add) (fun x y H Q => rI0 (fun i j => .int (i + j)) x y H Q ∨ (∃ i j, x = .str i ∧ y = .str j ∧ i.length + j.length ≤ sizeLine ∧ Q (.str (i ++ j)) H) ∨
    (∃ l b xs zs, x = .ref l ∧ y = .ref b ∧ Rd H l (.lst xs) ∧ Rd H b (.lst zs) ∧ xs.length + zs.length ≤ sizeLine ∧ ∀ p, H p = none → Q (.ref p) (upd H p (.lst (xs ++ zs))))) := op_add.or (op_add_str.or op_catR)
theorem od_addG : OpD K nf (rFzO fun x y H Q => rI0 (fun i j => .int (i + j)) x y H Q ∨ (∃ i j, x = .str i ∧ y = .str j ∧ i.length + j.length ≤ sizeLine ∧ Q (.str (i ++ j)) H) ∨
    (∃ l b xs zs, x = .ref l ∧ y = .ref b ∧ Rd H l (.lst xs) ∧ Rd H b (.lst zs) ∧ xs.length + zs.length ≤ sizeLine ∧ ∀ p, H p = none → Q (.ref p) (upd H p (.lst (xs ++ zs))))) (fF addD) := by
  rintro H v w x y z r1 r2 e Q q
  have e : addD x y = some z := e
  unfold addD at e
  split at e
  · cases e
    exact .inl ⟨_, _, rel_int r1, rel_int r2, .inl (q _ H (.int _) Xt.refl)⟩
  · split at e
    · rename_i h
      cases e
      exact .inr (.inl ⟨_, _, rel_str r1, rel_str r2, sz_ok h, .inl (q _ H (.str _) Xt.refl)⟩)
    · cases e
  · split at e
    · rename_i h
      cases e
      exact .inr (.inr (od_catR H v w _ _ _ r1 r2 ⟨_, _, rfl, rfl, h, rfl⟩ Q q))
    · cases e
  · cases e
variable {a b c : Expr} {pos : Pos} {da db dc : DT nf}
theorem de_addG (ha : DE X nf a da) (hb : DE X nf b db) : DE X nf (.BinOp a .Add b pos) (dF addD da db) := pe_imp (pe_fzO (pe_op op_addG ha hb)) fun σ H Q h => lift_op od_addG σ H Q h
def ixD : D → D → Option D
  | .lst xs, .int i => atI xs i
  | .tup xs, .int i => atI xs i
  | .str s, .int i => if s.length ≤ 1000000 then (atI s.cps.toList i).map fun c => .str ⟨#[c]⟩ else none
  | .dct kds, y => (keyOf y).bind (valD kds)
  | _, _ => none
def rDG : R2 := fun x y H Q => ∃ a v, x = .ref a ∧ DGet H a y (some v) ∧ Q v H
theorem ix_dict (hu : X.A.units + 1 < cLine) : IxR X rDG := by
  intro value slice pins s σ H x y v u Q I rx ry h hs
  obtain ⟨a, z, rfl, g, q⟩ := h
  cases rx
  have h1 := d_getItem (A := X.A) (E := X.xe) (Q := EP X pins σ Q) hu I g ry fun w' s3 I3 rw' => ⟨z, H, I3, rw', q⟩
  exact PyProof.Rows.tail_any (dict_typeIs I g) PySem.F.slot_dict_getitem.lookup h1 hs
theorem ixD_of {x y z : D} (e : ixD x y = some z) : (fIxL x y z ∨ fIxT x y z ∨ fIxS x y z) ∨ fDG x y z := bxU (by simp (disch := with_unfolding_all
  cases x with
  | lst xs => cases y <;> simp only [ixD] at e <;> first | cases e | exact .inl (.inl ⟨_, _, rfl, rfl, e⟩)
  | tup xs => cases y <;> simp only [ixD] at e <;> first | cases e | exact .inl (.inr (.inl ⟨_, _, rfl, rfl, e⟩))
  | str s =>
    cases y with
    | int i =>
      simp only [ixD] at e
      split at e
      · rename_i h
        cases hc : atI s.cps.toList i with
        | none => rw [hc] at e; cases e
        | some c =>
          rw [hc] at e
          simp only [Option.map_some, Option.some.injEq] at e
          exact .inl (.inr (.inr ⟨_, _, c, rfl, rfl, h, hc, e.symm⟩))
      · cases e
    | _ => simp only [ixD] at e; cases e
  | dct kds =>
    simp only [ixD] at e
    cases hk : keyOf y with
    | none => rw [hk] at e; cases e
    | some k => rw [hk] at e; exact .inr ⟨_, k, rfl, hk, e⟩
  | _ => simp only [ixD] at e; cases e) only [bxI])
theorem od_dg : OpD K nf rDG fDG := by
  rintro H v w x y z r1 r2 ⟨kds, k, rfl, e1, e2⟩ Q q
  cases r1 with
  | @dct a ob kvs _ ha rr =>
    obtain ⟨u, e3, r3⟩ := rr.val e2
    have ew := key_of r2 e1
    subst ew
    exact ⟨a, u, rfl, .inl ⟨kvs, k, .inr ⟨ob, ha⟩, rfl, e3.symm⟩, q u H r3 Xt.refl⟩
theorem od_ixG : OpD K nf (fun x y H Q => rIx K x y H Q ∨ rDG x y H Q) (fF ixD) := ((od_ixL.or (od_ixT.or od_ixS)).or od_dg).imp fun _ _ _ e => ixD_of e
theorem de_ixG (hu : X.A.units + 1 < cLine) (ha : DE X nf a da) (hb : DE X nf b db) (hs : PlainIx b := by exact fun _ _ => rfl) : DE X nf (.Subscript a b pos) (dF ixD da db) := pe_imp (pe_ix (ix_seq.or (ix_dict hu)) ha hb hs) fun σ H Q h => lift_op od_ixG σ H Q h
def signOf (s : Str) : Option Nat := match s.cps.toList with | [c] => some c | _ => none
theorem signOf_eq {s : Str} {c : Nat} (h : signOf s = some c) : s = ⟨#[c]⟩ := bxU (by simp (disch := with_unfolding_all
  unfold signOf at h
  split at h
  · rename_i c' e
    cases h
    cases s with
    | mk cps => simp at e; cases cps; simp at e; subst e; rfl
  · cases h) only [bxI])
def inD : D → D → Option Bool
  | x, .lst xs => (flatD x).bind fun v => (flatDs xs).map fun us => inV v us
  | x, .tup xs => (flatD x).bind fun v => (flatDs xs).map fun us => inV v us
  | .str x, .str s => (signOf x).map fun c => decide (c ∈ s.cps.toList)
  | x, .dct kds => (keyOf x).map fun k => (valD kds k).isSome
  | _, _ => none
def inF (neg : Bool) : D → D → Option D := fun x y => (inD x y).map fun b => .bl (if neg then !b else b)
theorem op_dIn (hu : X.A.units + 1 < cLine) : OpR X (compareOp .In) (fun y x H2 Q => ∃ a o, x = .ref a ∧ DGet H2 a y o ∧ Q (.bl o.isSome) H2) := by
  intro pins s σ H x y v u Q I rx ry h
  obtain ⟨a, o, rfl, g, q⟩ := h
  cases ry
  exact d_in hu I g rx fun s3 I3 => ⟨.bl o.isSome, H, I3, rfl, q⟩
theorem op_dNotIn (hu : X.A.units + 1 < cLine) : OpR X (compareOp .NotIn) (fun y x H2 Q => ∃ a o, x = .ref a ∧ DGet H2 a y o ∧ Q (.bl (!o.isSome)) H2) := by
  intro pins s σ H x y v u Q I rx ry h
  obtain ⟨a, o, rfl, g, q⟩ := h
  cases ry
  exact d_notIn hu I g rx fun s3 I3 => ⟨.bl (!o.isSome), H, I3, rfl, q⟩
theorem inD_of {x y : D} {b : Bool} (e : inD x y = some b) (neg : Bool) : fIn neg x y (.bl (if neg then !b else b)) ∨ (∃ (c : Nat) (s : Str), x = .str ⟨#[c]⟩ ∧ y = .str s ∧ b = decide (c ∈ s.cps.toList)) ∨ fDIn neg x y (.bl (if neg then !b else b)) := bxU (by simp (disch := with_unfolding_all
  cases y with
  | lst xs =>
    simp only [inD] at e
    cases h1 : flatD x with
    | none => rw [h1] at e; cases e
    | some v =>
      cases h2 : flatDs xs with
      | none => rw [h1, h2] at e; cases e
      | some us =>
        rw [h1, h2] at e
        simp only [Option.bind_some, Option.map_some, Option.some.injEq] at e
        subst e
        exact .inl ⟨xs, v, us, .inl rfl, h1, h2, rfl⟩
  | tup xs =>
    simp only [inD] at e
    cases h1 : flatD x with
    | none => rw [h1] at e; cases e
    | some v =>
      cases h2 : flatDs xs with
      | none => rw [h1, h2] at e; cases e
      | some us =>
        rw [h1, h2] at e
        simp only [Option.bind_some, Option.map_some, Option.some.injEq] at e
        subst e
        exact .inl ⟨xs, v, us, .inr rfl, h1, h2, rfl⟩
  | str s =>
    cases x with
    | str t =>
      simp only [inD] at e
      cases h : signOf t with
      | none => rw [h] at e; cases e
      | some c =>
        rw [h] at e
        simp only [Option.map_some, Option.some.injEq] at e
        have := signOf_eq h
        subst this
        exact .inr (.inl ⟨c, s, rfl, rfl, e.symm⟩)
    | _ => simp only [inD] at e; cases e
  | dct kds =>
    have e' : (keyOf x).map (fun k => (valD kds k).isSome) = some b := by
      cases x <;> simpa only [inD] using e
    cases h : keyOf x with
    | none => rw [h] at e'; cases e'
    | some k =>
      rw [h] at e'
      simp only [Option.map_some, Option.some.injEq] at e'
      subst e'
      exact .inr (.inr ⟨kds, k, rfl, h, rfl⟩)
  | _ => cases x <;> simp only [inD] at e <;> cases e) only [bxI])
theorem od_inG : OpD K nf (fun x y H Q => rIn K false x y H Q ∨ (∃ (c : Nat) (z : Str), x = .str ⟨#[c]⟩ ∧ y = .str z ∧ Q (.bl (decide (c ∈ z.cps.toList))) H) ∨ (∃ a o, y = .ref a ∧ DGet H a x o ∧ Q (.bl o.isSome) H)) (fF (inF false)) := bxU (by simp (disch := with_unfolding_all
  exact (od_in.or (od_inS.or od_din)).imp fun x y z e => by
    have e : (inD x y).map (fun b => D.bl (if false = true then !b else b)) = some z := e
    cases h : inD x y with
    | none => rw [h] at e; cases e
    | some b =>
      rw [h] at e
      simp only [Option.map_some, Option.some.injEq] at e
      subst e
      rcases inD_of h false with q | ⟨c, s, e1, e2, e3⟩ | q
      · exact .inl q
      · exact .inr (.inl ⟨c, s, e1, e2, by rw [e3]; rfl⟩)
      · exact .inr (.inr q)) only [bxI])
/-- not in: a text in a text is left out -/
def ninF : D → D → Option D := fun x y => match y with | .str _ => none | _ => inF true x y
theorem od_ninG : OpD K nf (fun x y H Q => rIn K true x y H Q ∨ (∃ a o, y = .ref a ∧ DGet H a x o ∧ Q (.bl (!o.isSome)) H)) (fF ninF) := bxU (by simp (disch := with_unfolding_all
  exact (od_in.or od_dnin).imp fun x y z e => by
    have e : ninF x y = some z := e
    unfold ninF at e
    split at e
    · cases e
    · rename_i hy
      have e : (inD x y).map (fun b => D.bl (if true = true then !b else b)) = some z := e
      cases h : inD x y with
      | none => rw [h] at e; cases e
      | some b =>
        rw [h] at e
        simp only [Option.map_some, Option.some.injEq] at e
        subst e
        rcases inD_of h true with q | ⟨c, s, e1, e2, e3⟩ | q
        · exact .inl q
        · exact absurd e2 (hy s)
        · exact .inr q) only [bxI])
theorem de_inG (hu : X.A.units + 1 < cLine) (ha : DE X nf a da) (hb : DE X nf b db) (hm : behindInMarks .In b = false := by rfl) : DE X nf (.Compare a [.In] [b] pos) (dF (inF false) da db) := de_cmp (op_in_seq.or (op_in_sign.or (op_dIn hu))) od_inG ha hb hm
theorem de_ninG (hu : X.A.units + 1 < cLine) (ha : DE X nf a da) (hb : DE X nf b db) (hm : behindInMarks .NotIn b = false := by rfl) : DE X nf (.Compare a [.NotIn] [b] pos) (dF ninF da db) := de_cmp (op_notIn_seq.or (op_dNotIn hu)) od_ninG ha hb hm
theorem dc_ninG (hu : X.A.units + 1 < cLine) (ha : DE X nf a da) (hb : DE X nf b db) (hm : behindInMarks .NotIn b = false := by rfl) : DC X nf (.Compare a [.NotIn] [b] pos) (dBv (dF ninF da db)) := dc_cmp (op_notIn_seq.or (op_dNotIn hu)) od_ninG ha hb hm
def eqQ (neg : Bool) : D → D → D → Prop := fun x y z => fEq neg x y z ∨ fEqD neg x y z ∨ fEqDct (!neg) x y z
def dEqG (neg : Bool) (da db : DT nf) : DT nf := dOp (eqQ neg) da db
theorem de_eqG (hu : X.A.units + 64 < cLine) (ha : DE X nf a da) (hb : DE X nf b db) : DE X nf (.Compare a [.Eq] [b] pos) (dEqG false da db) := de_cmp (op_eq.or ((op_eqD hu).or (op_eqDR (by omega)))) (od_eq.or (od_eqD.or od_eqDct)) ha hb (nomark _)
theorem dc_eqG (hu : X.A.units + 64 < cLine) (ha : DE X nf a da) (hb : DE X nf b db) : DC X nf (.Compare a [.Eq] [b] pos) (dBv (dEqG false da db)) := dc_cmp (op_eq.or ((op_eqD hu).or (op_eqDR (by omega)))) (od_eq.or (od_eqD.or od_eqDct)) ha hb (nomark _)
theorem de_neG (hu : X.A.units + 64 < cLine) (ha : DE X nf a da) (hb : DE X nf b db) : DE X nf (.Compare a [.NotEq] [b] pos) (dEqG true da db) := de_cmp (op_ne.or ((op_neD hu).or (op_neDR (by omega)))) (od_ne.or (od_neD.or od_neDct)) ha hb (nomark _)
theorem dc_neG (hu : X.A.units + 64 < cLine) (ha : DE X nf a da) (hb : DE X nf b db) : DC X nf (.Compare a [.NotEq] [b] pos) (dBv (dEqG true da db)) := dc_cmp (op_ne.or ((op_neD hu).or (op_neDR (by omega)))) (od_ne.or (od_neD.or od_neDct)) ha hb (nomark _)
def dChain (g g' : Int → Int → Bool) (da db dc : DT nf) : DT nf := fun env Q => da env fun x env1 => db env1 fun y env2 => ∃ i j, x = .int i ∧ y = .int j ∧ if g i j = true then dc env2 fun z env3 => ∃ k, z = .int k ∧ Q (.bl (g' j k)) env3 else Q (.bl false) env2
theorem lift_chain {g g' : Int → Int → Bool} (σ : St) (H : Hp) (Q : VK) (h : lift K nf (dChain g g' da db dc) σ H Q) : tChain (rI0 fun i j => .bl (g i j)) (rI0 fun i j => .bl (g' i j)) (lift K nf da) (lift K nf db) (lift K nf dc) σ H Q := bxU (by simp (disch := with_unfolding_all
  obtain ⟨env, fp, Qd, R, h, k⟩ := h
  refine lift_run R h fun v H1 x env1 fp1 r1 R1 c1 h1 => ?_
  refine lift_run R1 h1 fun w H2 y env2 fp2 r2 R2 c2 ⟨i, j, ex, ey, q⟩ => ?_
  subst ex ey
  have e1 := rel_int r1
  have e2 := rel_int r2
  subst e1 e2
  refine ⟨i, j, rfl, rfl, g i j, rfl, ?_⟩
  cases hg : g i j with
  | true =>
    rw [hg, if_pos rfl] at q
    rw [if_pos rfl]
    refine lift_run R2 q fun u H3 z env3 fp3 r3 R3 c3 ⟨m, ez, q3⟩ => ?_
    subst ez
    have e3 := rel_int r3
    subst e3
    exact ⟨j, m, rfl, rfl, k _ H3 _ env3 fp3 (.bl _) R3 ((c1.trans c2).trans c3) q3⟩
  | false =>
    rw [hg, if_neg Bool.false_ne_true] at q
    rw [if_neg Bool.false_ne_true]
    exact k _ H2 _ env2 fp2 (.bl false) R2 (c1.trans c2) q) only [bxI])
theorem de_chain {op op' : CmpOp} {g g' : Int → Int → Bool} (ho : OpR X (compareOp op) (rI0 fun i j => .bl (g i j))) (ho' : OpR X (compareOp op') (rI0 fun i j => .bl (g' i j))) (ha : DE X nf a da) (hb : DE X nf b db) (hc : DE X nf c dc)
    (hm : lastMarks [op, op'] [b, c] = false := by with_unfolding_all rfl) : DE X nf (.Compare a [op, op'] [b, c] pos) (dChain g g' da db dc) := pe_imp (pe_chain ho ho' ha hb hc hm) lift_chain
theorem dc_chain {op op' : CmpOp} {g g' : Int → Int → Bool} (ho : OpR X (compareOp op) (rI0 fun i j => .bl (g i j))) (ho' : OpR X (compareOp op') (rI0 fun i j => .bl (g' i j))) (ha : DE X nf a da) (hb : DE X nf b db) (hc : DE X nf c dc)
    (hm : lastMarks [op, op'] [b, c] = false := by with_unfolding_all rfl) : DC X nf (.Compare a [op, op'] [b, c] pos) (dBv (dChain g g' da db dc)) := pt_imp (pt_chain ho ho' ha hb hc hm) (lift_B2 lift_chain)
theorem CbD.or {r r' : List V → Hp → VK → Prop} {f f' : List D → D → Prop} (h : CbD K nf r f) (h' : CbD K nf r' f') : CbD K nf (fun xs H Q => r xs H Q ∨ r' xs H Q) (fun x z => f x z ∨ f' x z) := by
  rintro H vs ds d rr (q | q) Q k
  · exact .inl (h H vs ds d rr q Q k)
  · exact .inr (h' H vs ds d rr q Q k)
theorem CbD.imp {r : List V → Hp → VK → Prop} {f f' : List D → D → Prop} (h : CbD K nf r f) (i : ∀ x z, f' x z → f x z) : CbD K nf r f' := fun H vs ds d rr q Q k => h H vs ds d rr (i _ _ q) Q k
theorem call_lenR : CallR X (.builtin "len") (fun xs H Q => ∃ a kvs, xs = [V.ref a] ∧ Rd H a (.dK kvs) ∧ Q (.int kvs.length) H) := by
  intro pins s σ H xs us Q I r h
  obtain ⟨a, kvs, rfl, ha, q⟩ := h
  obtain ⟨u, rfl, ru⟩ := vals1 r
  cases ru
  exact d_len I ha fun t s' I' => ⟨.int kvs.length, H, I', ⟨t, rfl⟩, q⟩
theorem call_lenG : CallR X (.builtin "len") (fun xs H Q => (∃ p ys, xs = [.ref p] ∧ (SqL X.K H p ys ∨ SqT X.K H p ys) ∧ Q (.int ys.length) H) ∨ (∃ z, xs = [.str z] ∧ z.length ≤ sizeLine ∧ Q (.int z.length) H) ∨ ∃ a kvs, xs = [V.ref a] ∧ Rd H a (.dK kvs) ∧ Q (.int kvs.length) H) :=
  L2.CallR.or call_len_seq (L2.CallR.or call_len_str call_lenR)
def fLenD : List D → D → Prop := fun ds d => ∃ kds, ds = [.dct kds] ∧ d = .int kds.length
theorem cd_lenD : CbD K nf (fun xs H Q => ∃ a kvs, xs = [V.ref a] ∧ Rd H a (.dK kvs) ∧ Q (.int kvs.length) H) fLenD := by
  rintro H vs ds d r ⟨kds, rfl, rfl⟩ Q q
  obtain ⟨v, rfl, h⟩ := rels1x r
  cases h with
  | dct h rr => exact ⟨_, _, rfl, .inr ⟨_, h⟩, by rw [rr.length]; exact q _ H (.int _) Xt.refl⟩
def lenD : D → Option Int
  | .lst xs => some xs.length
  | .tup xs => some xs.length
  | .dct xs => some xs.length
  | .str z => if z.length ≤ 1000000 then some z.length else none
  | _ => none
def fLenG : List D → D → Prop := fun ds d => ∃ x n, ds = [x] ∧ lenD x = some n ∧ d = .int n
theorem cd_lenG : CbD K nf (fun xs H Q => (∃ p ys, xs = [.ref p] ∧ (SqL K H p ys ∨ SqT K H p ys) ∧ Q (.int ys.length) H) ∨ (∃ z, xs = [.str z] ∧ z.length ≤ sizeLine ∧ Q (.int z.length) H) ∨ ∃ a kvs, xs = [V.ref a] ∧ Rd H a (.dK kvs) ∧ Q (.int kvs.length) H) fLenG := bxU (by simp (disch := with_unfolding_all
  exact (cd_len.or (cd_lenS.or cd_lenD)).imp fun ds d ⟨x, n, e, h, ed⟩ => by
    subst e ed
    cases x with
    | lst xs => cases h; exact .inl ⟨xs, .inl rfl, rfl⟩
    | tup xs => cases h; exact .inl ⟨xs, .inr rfl, rfl⟩
    | dct xs => cases h; exact .inr (.inr ⟨xs, rfl, rfl⟩)
    | str z =>
      simp only [lenD] at h
      split at h
      · rename_i hl
        cases h
        exact .inr (.inl ⟨z, rfl, hl, rfl⟩)
      · cases h
    | _ => cases h) only [bxI])
end
end DL
namespace DL
open PySem L2
section
variable {nf : NFs}
theorem for_inv {g : DG nf} {b : DTS nf} {De : EndsD nf} (Iv : List D → EV nf → Prop) (step : ∀ x xs env (R : EV nf → Prop), Iv (x :: xs) env → (∀ env', Iv xs env' → R env') → g x env fun env1 => b { De with nx := R, ct := R, bk := De.nx } env1) (fin : ∀ env, Iv [] env → De.nx env) :
    ∀ ds env, Iv ds env → dFor g b ds De env
  | [], env, h => fin env h
  | x :: xs, env, h => step x xs env (dFor g b xs De) h fun env' h' => for_inv Iv step fin xs env' h'
theorem lc_inv {g : DG nf} {dt : DB nf} {de : DT nf} {js : List Nat} {Q : List D → EV nf → Prop} (Iv : List D → List D → EV nf → Prop)
    (step : ∀ x xs acc env (R : List D → EV nf → Prop), Iv (x :: xs) acc env → (∀ acc' env', Iv xs acc' env' → R acc' env') → g x env fun env1 => dt env1 fun b env2 => if b = true then de env2 fun d env3 => acc.length < 1000000 ∧ R (acc ++ [d]) (wipeD env3 js) else R acc (wipeD env2 js))
    (fin : ∀ acc env, Iv [] acc env → Q acc env) : ∀ ds acc env, Iv ds acc env → dComp g dt de js ds acc env Q
  | [], acc, env, h => fin acc env h
  | x :: xs, acc, env, h => step x xs acc env (fun acc env => dComp g dt de js xs acc env Q) h fun acc' env' h' => lc_inv Iv step fin xs acc' env' h'
/-- a comprehension over one name whose parts change nothing -/
theorem lc_pure {j : Nat} {dt : DB nf} {de : DT nf} {Q : List D → EV nf → Prop} {env : EV nf} (p : D → Bool) (f : D → D) (hj : env[j]? = some .un) {ds : List D}
    (ht : ∀ x ∈ ds, ∀ R : Bool → EV nf → Prop, R (p x) (env.set j (.fz x)) → dt (env.set j (.fz x)) R) (he : ∀ x ∈ ds, p x = true → ∀ R : D → EV nf → Prop, R (f x) (env.set j (.fz x)) → de (env.set j (.fz x)) R)
    {acc : List D} (hl : acc.length + ds.length ≤ 1000000) (q : Q (acc ++ (ds.filter p).map f) env) : dComp (gN j) dt de [j] ds acc env Q := bxU (by simp (disch := with_unfolding_all
  have hlen : j < env.length := (List.getElem?_eq_some_iff.mp hj).1
  have hback : ∀ x : D, (env.set j (.fz x)).set j .un = env := fun x => by
    rw [List.set_set]
    apply List.ext_getElem?
    intro i
    by_cases hi : j = i
    · subst hi; rw [List.getElem?_set_self hlen, hj]
    · rw [List.getElem?_set_ne hi]
  induction ds generalizing acc with
  | nil => simpa [dComp] using q
  | cons x xs ih =>
    show gN j x env _
    refine ⟨hlen, ?_⟩
    refine ht x List.mem_cons_self _ ?_
    have hl' : acc.length + xs.length + 1 ≤ 1000000 := by rw [List.length_cons] at hl; omega
    have ih' := fun acc (h : acc.length + xs.length ≤ 1000000) (q : Q (acc ++ (xs.filter p).map f) env) => ih (acc := acc) (fun y m => ht y (List.mem_cons_of_mem _ m)) (fun y m => he y (List.mem_cons_of_mem _ m)) h q
    cases hp : p x with
    | true =>
      rw [if_pos rfl]
      refine he x List.mem_cons_self hp _ ⟨by omega, ?_⟩
      show dComp (gN j) dt de [j] xs (acc ++ [f x]) ((env.set j (.fz x)).set j .un) Q
      rw [hback]
      refine ih' _ (by rw [List.length_append]; show acc.length + 1 + xs.length ≤ _; omega) ?_
      rw [List.filter_cons, hp] at q
      simpa using q
    | false =>
      rw [if_neg Bool.false_ne_true]
      show dComp (gN j) dt de [j] xs acc ((env.set j (.fz x)).set j .un) Q
      rw [hback]
      refine ih' _ (by omega) ?_
      rw [List.filter_cons, hp] at q
      simpa using q) only [bxI])
end
end DL
namespace DL
open PySem L2
section
variable {K : PySem.W.Frag} {nf : NFs}
@[simp] theorem isi_str {s : Str} {T : String} {d : D} : fIsi K [.str s, .ty T] d ↔ ∃ b, kitB "str" T = some b ∧ d = .bl b := by
  constructor
  · rintro ⟨x, c, t, u, b, e, h, e1, e2, e3, ed⟩
    cases e; cases e1; cases e2
    exact ⟨b, e3, ed⟩
  · rintro ⟨b, h, e⟩
    exact ⟨_, _, _, _, b, rfl, (fun C fs z => by cases z), rfl, rfl, h, e⟩
@[simp] theorem isi_int {s : Int} {T : String} {d : D} : fIsi K [.int s, .ty T] d ↔ ∃ b, kitB "int" T = some b ∧ d = .bl b := by
  constructor
  · rintro ⟨x, c, t, u, b, e, h, e1, e2, e3, ed⟩
    cases e; cases e1; cases e2
    exact ⟨b, e3, ed⟩
  · rintro ⟨b, h, e⟩
    exact ⟨_, _, _, _, b, rfl, (fun C fs z => by cases z), rfl, rfl, h, e⟩
@[simp] theorem isi_dct {s : List (Key × D)} {T : String} {d : D} : fIsi K [.dct s, .ty T] d ↔ ∃ b, kitB "dict" T = some b ∧ d = .bl b := by
  constructor
  · rintro ⟨x, c, t, u, b, e, h, e1, e2, e3, ed⟩
    cases e; cases e1; cases e2
    exact ⟨b, e3, ed⟩
  · rintro ⟨b, h, e⟩
    exact ⟨_, _, _, _, b, rfl, (fun C fs z => by cases z), rfl, rfl, h, e⟩
@[simp] theorem kb1 : kitB "str" "str" = some true := by decide +kernel
@[simp] theorem kb2 : kitB "int" "bool" = some false := by decide +kernel
@[simp] theorem kb3 : kitB "str" "bool" = some false := by decide +kernel
@[simp] theorem kb4 : kitB "int" "int" = some true := by decide +kernel
@[simp] theorem kb5 : kitB "str" "int" = some false := by decide +kernel
@[simp] theorem kb6 : kitB "dict" "dict" = some true := by decide +kernel
end
end DL
namespace DL
open PySem L2
section
variable {nf : NFs} {K : PySem.W.Frag} {De : EndsD nf} {env env' env1 : EV nf} {i j n : Nat} {d x y z : D} {a b : DTS nf} {da db dc : DT nf} {ta tb tc : DB nf} {ra : DAs nf} {rm : DM nf} {Q : D → EV nf → Prop} {QB : Bool → EV nf → Prop} {QA : List D → EV nf → Prop} {QM : List AD → EV nf → Prop} {QN : EV nf → Prop}
theorem ite_s {c : Bool} {A B : Prop} (h1 : c = true → A) (h2 : c = false → B) : if c = true then A else B := bxU (by simp (disch := with_unfolding_all
  cases c with
  | true => exact h1 rfl
  | false => exact h2 rfl) only [bxI])
theorem iteT_s {c : Bool} {A B : Prop} (e : c = true) (h : A) : if c = true then A else B := bxU (by simp (disch := with_unfolding_all (rw [if_pos e]; exact h)) only [bxI])
theorem iteF_s {c : Bool} {A B : Prop} (e : c = false) (h : B) : if c = true then A else B := bxU (by simp (disch := with_unfolding_all (rw [if_neg (by rw [e]; exact Bool.false_ne_true)]; exact h)) only [bxI])
theorem sNext_s (h : De.nx env) : sNext De env := h
theorem sSeq_s (h : a { De with nx := b De } env) : sSeq a b De env := h
theorem sIf_s (h : tc env fun k env1 => if k = true then a De env1 else b De env1) : sIf tc a b De env := h
theorem sRet_s (h : da env De.rt) : sRet da De env := h
def SetK (i : Nat) (De : EndsD nf) : D → EV nf → Prop := fun d env1 => i < env1.length ∧ De.nx (env1.set i (.fz d))
theorem sSet_s (h : da env (SetK i De)) : sSet i da De env := h
theorem setK_s (hl : Nat.blt i env.length = true) (e : env.set i (.fz d) = env') (h : De.nx env') : SetK i De d env := ⟨Nat.blt_eq.mp hl, e ▸ h⟩
theorem sAsg_s {g : DG nf} (h : da env fun d env1 => g d env1 De.nx) : sAsg da g De env := h
theorem gN_s (hl : Nat.blt i env.length = true) (e : env.set i (.fz d) = env') (h : QN env') : gN i d env QN := ⟨Nat.blt_eq.mp hl, e ▸ h⟩
theorem gT_s {g : DGs nf} {ds : List D} (hn : ds.length = n) (h : g ds env QN) : gT n g (.tup ds) env QN := ⟨ds, rfl, hn, h⟩
theorem gsNil_s (h : QN env) : gsNil [] env QN := ⟨rfl, h⟩
theorem gsCons_s {g : DG nf} {r : DGs nf} {ds : List D} (h : g d env fun env1 => r ds env1 QN) : gsCons g r (d :: ds) env QN := ⟨d, ds, rfl, h⟩
theorem sSetL_s (h : ra env fun xs env1 => xs.length ≤ 1000000 ∧ i < env1.length ∧ ∀ p, De.nx (env1.set i (.ow (.ref p) (lstA K nf xs)))) : sSetL K i ra De env := h
theorem setL_s {xs : List D} {env' : Addr → EV nf} (hz : Nat.ble xs.length 1000000 = true) (hl : Nat.blt i env.length = true) (e : ∀ p, env.set i (.ow (.ref p) (lstA K nf xs)) = env' p) (h : ∀ p, De.nx (env' p)) : xs.length ≤ 1000000 ∧ i < env.length ∧ ∀ p, De.nx (env.set i (.ow (.ref p) (lstA K nf xs))) := bxU (by simp (disch := with_unfolding_all
  exact ⟨Nat.le_of_ble_eq_true hz, Nat.blt_eq.mp hl, fun p => by rw [e p]; exact h p⟩) only [bxI])
def AppK (K : PySem.W.Frag) (i : Nat) (De : EndsD nf) : D → EV nf → Prop := fun d env1 => ∃ v xs, env1[i]? = some (.ow v (lstA K nf xs)) ∧ xs.length < 1000000 ∧ De.nx (env1.set i (.ow v (lstA K nf (xs ++ [d]))))
theorem appW_s {v : V} {xs : List D} (e : env[i]? = some (.ow v (lstA K nf xs))) (h : da env (AppK K i De)) : (∃ v xs, env[i]? = some (SD.ow v (lstA K nf xs))) ∧ sApp K i da De env := ⟨⟨v, xs, e⟩, h⟩
theorem appK_s {v : V} {xs : List D} (e : env[i]? = some (.ow v (lstA K nf xs))) (hl : xs.length < 1000000) (e2 : env.set i (.ow v (lstA K nf (xs ++ [d]))) = env') (h : De.nx env') : AppK K i De d env := ⟨v, xs, e, hl, e2 ▸ h⟩
theorem dVarF_s {v : V} {xs : List D} (e : env[i]? = some (.ow v (lstA K nf xs))) (e2 : env.set i (.fz (.lst xs)) = env') (h : Q (.lst xs) env') : dVarF K i env Q := ⟨v, xs, e, e2 ▸ h⟩
theorem dVar_s (e : env[i]? = some (.fz d)) (h : Q d env) : dVar i env Q := ⟨d, e, h⟩
theorem dC_s (h : Q d env) : dC d env Q := h
def BvK (QB : Bool → EV nf → Prop) : D → EV nf → Prop := fun x env1 => ∃ b, x = .bl b ∧ QB b env1
theorem dBv_s (h : da env (BvK QB)) : dBv da env QB := h
theorem bvK_s {b : Bool} (h : QB b env) : BvK QB (.bl b) env := ⟨b, rfl, h⟩
theorem dNot_s (h : ta env fun c env1 => QB (!c) env1) : dNot ta env QB := h
theorem dAnd_s (h : ta env fun c env1 => if c = true then tb env1 QB else QB false env1) : dAnd ta tb env QB := h
theorem dOr_s (h : ta env fun c env1 => if c = true then QB true env1 else tb env1 QB) : dOr ta tb env QB := h
theorem dYes_s (h : QB true env) : dYes env QB := h
def AndVK (db : DT nf) (Q : D → EV nf → Prop) : D → EV nf → Prop := fun x env1 => ∃ c, x = .bl c ∧ if c = true then db env1 Q else Q (.bl false) env1
def OrVK (db : DT nf) (Q : D → EV nf → Prop) : D → EV nf → Prop := fun x env1 => ∃ c, x = .bl c ∧ if c = true then Q (.bl true) env1 else db env1 Q
def NotVK (Q : D → EV nf → Prop) : D → EV nf → Prop := fun x env1 => ∃ c, x = .bl c ∧ Q (.bl (!c)) env1
theorem dAndV_s (h : da env (AndVK db Q)) : dAndV da db env Q := h
theorem dOrV_s (h : da env (OrVK db Q)) : dOrV da db env Q := h
theorem dNotV_s (h : da env (NotVK Q)) : dNotV da env Q := h
theorem andVK_s {c : Bool} (h : if c = true then db env Q else Q (.bl false) env) : AndVK db Q (.bl c) env := ⟨c, rfl, h⟩
theorem orVK_s {c : Bool} (h : if c = true then Q (.bl true) env else db env Q) : OrVK db Q (.bl c) env := ⟨c, rfl, h⟩
theorem notVK_s {c : Bool} (h : Q (.bl (!c)) env) : NotVK Q (.bl c) env := ⟨c, rfl, h⟩
theorem aNil_s (h : QA [] env) : aNil env QA := h
theorem aCons_s (h : da env fun x env1 => ra env1 fun xs env2 => QA (x :: xs) env2) : aCons da ra env QA := h
theorem dTup_s (h : ra env fun xs env1 => xs.length ≤ 1000000 ∧ Q (.tup xs) env1) : dTup ra env Q := h
theorem dLst_s (h : ra env fun xs env1 => xs.length ≤ 1000000 ∧ Q (.lst xs) env1) : dLst ra env Q := h
theorem lenQ_s {xs : List D} {A : Prop} (hl : Nat.ble xs.length 1000000 = true) (h : A) : xs.length ≤ 1000000 ∧ A := ⟨Nat.le_of_ble_eq_true hl, h⟩
def OpK (f : D → D → D → Prop) (Q : D → EV nf → Prop) (x y : D) : EV nf → Prop := fun env2 => ∃ z, f x y z ∧ Q z env2
theorem dOp_s {f : D → D → D → Prop} (h : da env fun x env1 => db env1 fun y env2 => OpK f Q x y env2) : dOp f da db env Q := h
theorem opK_s {f : D → D → D → Prop} (e : f x y z) (h : Q z env) : OpK f Q x y env := ⟨z, e, h⟩
theorem dSub_s (h : dOp (fI0 fun i j => .int (i - j)) da db env Q) : dSub da db env Q := h
theorem dMul_s (h : dOp (fI CMul fun i j => .int (i * j)) da db env Q) : dMul da db env Q := h
theorem dMod_s (h : dOp (fI (fun _ j => 0 < j) fun i j => .int (i % j)) da db env Q) : dMod da db env Q := h
theorem dDiv_s (h : dOp (fI CDivW fun i j => .int (i / j)) da db env Q) : dDiv da db env Q := h
theorem dPow_s (h : dOp (fI CPow fun i j => .int (i ^ j.toNat)) da db env Q) : dPow da db env Q := h
theorem dCmp_s {g : Int → Int → Bool} (h : dOp (fI0 fun i j => .bl (g i j)) da db env Q) : dCmp g da db env Q := h
theorem opI0_s {g : Int → Int → D} {i j : Int} (h : Q (g i j) env) : OpK (fI0 g) Q (.int i) (.int j) env := ⟨_, ⟨i, j, rfl, rfl, rfl⟩, h⟩
theorem opI_s {C : Int → Int → Prop} {g : Int → Int → D} {i j : Int} (c : C i j) (h : Q (g i j) env) : OpK (fI C g) Q (.int i) (.int j) env := ⟨_, ⟨i, j, rfl, rfl, c, rfl⟩, h⟩
theorem dEqG_s {neg : Bool} (h : dOp (eqQ neg) da db env Q) : dEqG neg da db env Q := h
theorem eqF_s {b : Bool} (e : eqS x y = some b) (h : Q (.bl b) env) : OpK (eqQ false) Q x y env := ⟨_, .inl ⟨b, e, rfl⟩, h⟩
theorem eqT_s {b : Bool} (e : eqS x y = some b) (h : Q (.bl (!b)) env) : OpK (eqQ true) Q x y env := ⟨_, .inl ⟨b, e, rfl⟩, h⟩
theorem eqDF_s {p q : PyData} (e1 : pyOf x = some p) (e2 : pyOf y = some q) (s1 : SeqAt.shaped p = true) (s2 : SeqAt.shaped q = true) (h : Q (.bl (PyData.eqv p q)) env) : OpK (eqQ false) Q x y env := ⟨_, .inr (.inl ⟨p, q, e1, e2, s1, s2, rfl⟩), h⟩
theorem eqDT_s {p q : PyData} (e1 : pyOf x = some p) (e2 : pyOf y = some q) (s1 : SeqAt.shaped p = true) (s2 : SeqAt.shaped q = true) (h : Q (.bl (!PyData.eqv p q)) env) : OpK (eqQ true) Q x y env := ⟨_, .inr (.inl ⟨p, q, e1, e2, s1, s2, rfl⟩), h⟩
def FK (g : D → D → Option D) (Q : D → EV nf → Prop) (x y : D) : EV nf → Prop := fun env2 => ∃ z, g x y = some z ∧ Q z env2
theorem dF_s {g : D → D → Option D} (h : da env fun x env1 => db env1 fun y env2 => FK g Q x y env2) : dF g da db env Q := h
theorem fK_s {g : D → D → Option D} (e : g x y = some z) (h : Q z env) : FK g Q x y env := ⟨z, e, h⟩
theorem addI_s {i j : Int} (h : Q (.int (i + j)) env) : FK addD Q (.int i) (.int j) env := ⟨_, rfl, h⟩
theorem addS_s {s t : Str} (hl : s.length + t.length ≤ 1000000) (h : Q (.str (s ++ t)) env) : FK addD Q (.str s) (.str t) env := ⟨_, if_pos hl, h⟩
theorem addL_s {s t : List D} (hl : s.length + t.length ≤ 1000000) (h : Q (.lst (s ++ t)) env) : FK addD Q (.lst s) (.lst t) env := ⟨_, if_pos hl, h⟩
theorem ixL_s {xs : List D} {k : Int} (e : atI xs k = some z) (h : Q z env) : FK ixD Q (.lst xs) (.int k) env := ⟨z, e, h⟩
theorem ixT_s {xs : List D} {k : Int} (e : atI xs k = some z) (h : Q z env) : FK ixD Q (.tup xs) (.int k) env := ⟨z, e, h⟩
theorem ixS_s {s : Str} {k : Int} {c : Nat} (hl : s.length ≤ 1000000) (e : atI s.cps.toList k = some c) (h : Q (.str ⟨#[c]⟩) env) : FK ixD Q (.str s) (.int k) env := ⟨_, by show (if s.length ≤ 1000000 then (atI s.cps.toList k).map _ else none) = _; rw [if_pos hl, e]; rfl, h⟩
theorem inS_s {c : Nat} {s : Str} (h : Q (.bl (decide (c ∈ s.cps.toList))) env) : FK (inF false) Q (.str ⟨#[c]⟩) (.str s) env := ⟨_, rfl, h⟩
theorem ninL_s {xs : List D} {b : Bool} (e : inD x (.lst xs) = some b) (h : Q (.bl (!b)) env) : FK ninF Q x (.lst xs) env := ⟨_, by show (inD x (.lst xs)).map _ = _; rw [e]; rfl, h⟩
theorem ninT_s {xs : List D} {b : Bool} (e : inD x (.tup xs) = some b) (h : Q (.bl (!b)) env) : FK ninF Q x (.tup xs) env := ⟨_, by show (inD x (.tup xs)).map _ = _; rw [e]; rfl, h⟩
def ChK2 (g' : Int → Int → Bool) (j : Int) (Q : D → EV nf → Prop) : D → EV nf → Prop := fun z env3 => ∃ k, z = .int k ∧ Q (.bl (g' j k)) env3
def ChK (g g' : Int → Int → Bool) (dc : DT nf) (Q : D → EV nf → Prop) (x y : D) : EV nf → Prop := fun env2 => ∃ i j, x = .int i ∧ y = .int j ∧ if g i j = true then dc env2 (ChK2 g' j Q) else Q (.bl false) env2
theorem dChain_s {g g' : Int → Int → Bool} (h : da env fun x env1 => db env1 fun y env2 => ChK g g' dc Q x y env2) : dChain g g' da db dc env Q := h
theorem chK_s {g g' : Int → Int → Bool} {i j : Int} (h : if g i j = true then dc env (ChK2 g' j Q) else Q (.bl false) env) : ChK g g' dc Q (.int i) (.int j) env := ⟨i, j, rfl, rfl, h⟩
theorem chK2_s {g' : Int → Int → Bool} {j k : Int} (h : Q (.bl (g' j k)) env) : ChK2 g' j Q (.int k) env := ⟨k, rfl, h⟩
def CbK (f : List D → D → Prop) (Q : D → EV nf → Prop) : List D → EV nf → Prop := fun ds env1 => ∃ d, f ds d ∧ Q d env1
theorem dCB_s {f : List D → D → Prop} (h : ra env (CbK f Q)) : dCB f ra env Q := h
theorem cbK_s {f : List D → D → Prop} {ds : List D} (e : f ds d) (h : Q d env) : CbK f Q ds env := ⟨d, e, h⟩
theorem cbInt_s {i : Int} (h : Q (.int i) env) : CbK fInt Q [.int i] env := ⟨_, .inl ⟨i, rfl, rfl⟩, h⟩
theorem cbIntB_s {b : Bool} (h : Q (.int (if b then 1 else 0)) env) : CbK fInt Q [.bl b] env := ⟨_, .inr ⟨b, rfl, rfl⟩, h⟩
theorem cbLenL_s {xs : List D} (h : Q (.int xs.length) env) : CbK fLenG Q [.lst xs] env := ⟨_, ⟨_, _, rfl, rfl, rfl⟩, h⟩
theorem cbLenT_s {xs : List D} (h : Q (.int xs.length) env) : CbK fLenG Q [.tup xs] env := ⟨_, ⟨_, _, rfl, rfl, rfl⟩, h⟩
theorem cbLenS_s {s : Str} (hl : s.length ≤ 1000000) (h : Q (.int s.length) env) : CbK fLenG Q [.str s] env := ⟨_, ⟨_, _, rfl, if_pos hl, rfl⟩, h⟩
theorem cbList_s {xs : List D} (h : Q (.lst xs) env) : CbK fList Q [.lst xs] env := ⟨_, ⟨xs, .inl rfl, rfl⟩, h⟩
theorem cbListT_s {xs : List D} (h : Q (.lst xs) env) : CbK fList Q [.tup xs] env := ⟨_, ⟨xs, .inr rfl, rfl⟩, h⟩
theorem cbTuple_s {xs : List D} (h : Q (.tup xs) env) : CbK fTuple Q [.lst xs] env := ⟨_, ⟨xs, .inl rfl, rfl⟩, h⟩
theorem cbStrI_s {k : Int} (hl : k.natAbs.log2 < 1920) (h : Q (.str (toString k)) env) : CbK fStrI Q [.int k] env := ⟨_, ⟨k, rfl, hl, rfl⟩, h⟩
theorem isiStr_s {s : Str} {T : String} {b : Bool} (e : kitB "str" T = some b) (h : Q (.bl b) env) : CbK (fIsi K) Q [.str s, .ty T] env := ⟨_, isi_str.mpr ⟨b, e, rfl⟩, h⟩
theorem isiInt_s {s : Int} {T : String} {b : Bool} (e : kitB "int" T = some b) (h : Q (.bl b) env) : CbK (fIsi K) Q [.int s, .ty T] env := ⟨_, isi_int.mpr ⟨b, e, rfl⟩, h⟩
def SplK2 (s : Str) (Q : D → EV nf → Prop) : D → EV nf → Prop := fun y env2 => ∃ b, y = .str b ∧ (b.length == 0) = false ∧ s.length + 2 ≤ 1000000 ∧ Q (.lst ((Txt.split s b).map .str)) env2
def SplK (db : DT nf) (Q : D → EV nf → Prop) : D → EV nf → Prop := fun x env1 => ∃ a, x = .str a ∧ db env1 (SplK2 a Q)
theorem dSplit_s (h : da env (SplK db Q)) : dSplit da db env Q := h
theorem splK_s {s : Str} (h : db env (SplK2 s Q)) : SplK db Q (.str s) env := ⟨s, rfl, h⟩
theorem splK2_s {s b : Str} (h1 : (b.length == 0) = false) (h2 : s.length + 2 ≤ 1000000) (h : Q (.lst ((Txt.split s b).map .str)) env) : SplK2 s Q (.str b) env := ⟨b, rfl, h1, h2, h⟩
def OK' (Q : Option Int → EV nf → Prop) : D → EV nf → Prop := fun x env1 => ∃ i, x = .int i ∧ Q (some i) env1
theorem oNone_s {Q : Option Int → EV nf → Prop} (h : Q none env) : oNone env Q := h
theorem oSome_s {Q : Option Int → EV nf → Prop} (h : da env (OK' Q)) : oSome da env Q := h
theorem ok'_s {Q : Option Int → EV nf → Prop} {i : Int} (h : Q (some i) env) : OK' Q (.int i) env := ⟨i, rfl, h⟩
def SlSK (x : D) (l u : Option Int) (Q : D → EV nf → Prop) : EV nf → Prop := fun env3 => ∃ z, x = .str z ∧ z.length ≤ 1000000 ∧ Q (.str (cutS z l u)) env3
theorem dSlS_s {lo hi : DO nf} (h : da env fun x env1 => lo env1 fun l env2 => hi env2 fun u env3 => SlSK x l u Q env3) : dSlS da lo hi env Q := h
theorem slSK_s {s : Str} {l u : Option Int} (hl : s.length ≤ 1000000) (h : Q (.str (cutS s l u)) env) : SlSK (.str s) l u Q env := ⟨s, rfl, hl, h⟩
def FldK (C : Addr) (m : Str) (Q : D → EV nf → Prop) : D → EV nf → Prop := fun ob env1 => ∃ fds d, ob = .obj C fds ∧ fds.lookup m = some d ∧ Q d env1
theorem dFld_s {C : Addr} {m : Str} (h : da env (FldK C m Q)) : dFld C m da env Q := h
theorem fldK_s {C : Addr} {m : Str} {fds : List (Str × D)} (e : fds.lookup m = some d) (h : Q d env) : FldK C m Q (.obj C fds) env := ⟨fds, d, rfl, e, h⟩
theorem mNil_s (h : QM [] env) : mNil env QM := h
theorem mVal_s (h : da env fun d env1 => rm env1 fun ads env2 => QM (.v d :: ads) env2) : mVal da rm env QM := h
theorem mSlot_s {s : SD nf} (e : env[i]? = some s) (hs : isSet s) (h : rm env fun ads env2 => QM (.o i :: ads) env2) : mSlot i rm env QM := ⟨⟨s, e, hs⟩, h⟩
def ndB : List Nat → Bool
  | [] => true
  | x :: xs => !(xs.elem x) && ndB xs
theorem nd_of : ∀ {l : List Nat}, ndB l = true → l.Nodup
  | [], _ => List.nodup_nil
  | x :: xs, h => by
    simp only [ndB, Bool.and_eq_true, Bool.not_eq_true', List.elem_eq_mem, decide_eq_false_iff_not] at h
    exact List.nodup_cons.mpr ⟨h.1, nd_of h.2⟩
def PutK (env : EV nf) (ads : List AD) (Q : D → EV nf → Prop) : D → List (SD nf) → Prop := fun d as' => Q d (putBack env ads as')
theorem putK_s {ads : List AD} {as' : List (SD nf)} (e : putBack env ads as' = env') (h : Q d env') : PutK env ads Q d as' := bxU (by simp (disch := with_unfolding_all (show Q d (putBack env ads as'); rw [e]; exact h)) only [bxI])
def CallK (n : Nat) (S : SpD nf) (dds : List D) (Q : D → EV nf → Prop) : List AD → EV nf → Prop := fun ads env1 => ads.length + dds.length = n ∧ (slotsOf (ads ++ dds.map AD.v)).Nodup ∧ (∀ i ∈ slotsOf (ads ++ dds.map AD.v), i < env1.length) ∧
  S ((ads ++ dds.map AD.v).map (resolve env1)) fun d as' => Q d (putBack env1 (ads ++ dds.map AD.v) as')
theorem dCall_s {S : SpD nf} {dds : List D} (h : rm env (CallK n S dds Q)) : dCall n S dds rm env Q := h
theorem ofAll {l : List Nat} {n : Nat} (h : l.all (fun i => Nat.blt i n) = true) : ∀ i ∈ l, i < n := fun i m => Nat.blt_eq.mp (List.all_eq_true.mp h i m)
theorem callK_s {S : SpD nf} {dds : List D} {ads ads' : List AD} {as : List (SD nf)} (h1 : ads.length + dds.length = n) (e1 : ads ++ dds.map AD.v = ads') (h2 : ndB (slotsOf ads') = true) (h3 : (slotsOf ads').all (fun i => Nat.blt i env.length) = true)
    (e2 : ads'.map (resolve env) = as) (h : S as (PutK env ads' Q)) : CallK n S dds Q ads env := bxU (by simp (disch := with_unfolding_all (subst e1; subst e2; exact ⟨h1, nd_of h2, ofAll h3, h⟩)) only [bxI])
def MkK (y : Addr) (C : Addr) (env : EV nf) (ads : List AD) (Q : D → EV nf → Prop) : D → List (SD nf) → Prop := fun d as' => d = .non ∧ ∃ fds rest, as' = .fr (.ref y) (.obj C fds) :: rest ∧ Q (.obj C fds) (putBack env ads rest)
theorem mkK_s {C y : Addr} {ads : List AD} {fds : List (Str × D)} {rest : List (SD nf)} (e : putBack env ads rest = env') (h : Q (.obj C fds) env') : MkK y C env ads Q .non (.fr (.ref y) (.obj C fds) :: rest) := ⟨rfl, fds, rest, rfl, by rw [e]; exact h⟩
theorem stP1 {gr : List Int} {x n sd z : Int} : stP gr x n sd 1 z = stA nf gr z n sd := rfl
theorem stP2 {gr : List Int} {x n sd z : Int} : stP gr x n sd 2 z = stA nf gr x z sd := rfl
theorem stP3 {gr : List Int} {x n sd z : Int} : stP gr x n sd 3 z = stA nf gr x n z := rfl
def FldSK (K : PySem.W.Frag) (C : Addr) (i : Nat) (m : Str) (De : EndsD nf) : D → EV nf → Prop := fun d env1 => ∃ v fds, env1[i]? = some (.ow v (insA K nf C fds)) ∧ fds.lookup m = none ∧ fds.length < 999 ∧
  (fds.length + 1 < nf C → De.nx (env1.set i (.ow v (insA K nf C (fds ++ [(m, d)]))))) ∧ (fds.length + 1 = nf C → De.nx (env1.set i (.fr v (.obj C (fds ++ [(m, d)])))))
theorem sFldS_s {C : Addr} {m : Str} (h : da env (FldSK K C i m De)) : sFldS K C i m da De env := h
theorem fldLast_s {C : Addr} {m : Str} {v : V} {fds : List (Str × D)} (e : env[i]? = some (.ow v (insA K nf C fds))) (e0 : fds.lookup m = none) (hl : fds.length < 999) (hn : nf C = fds.length + 1) (e2 : env.set i (.fr v (.obj C (fds ++ [(m, d)]))) = env') (h : De.nx env') : FldSK K C i m De d env :=
  ⟨v, fds, e, e0, hl, fun z => by omega, fun _ => by rw [e2]; exact h⟩
theorem sFor_s {g : DG nf} (h : ra env fun ds env1 => dFor g b ds De env1) : sFor ra g b De env := h
theorem forNil_s {g : DG nf} (h : De.nx env) : dFor g b [] De env := h
theorem forCons_s {g : DG nf} {ds : List D} (h : g d env fun env1 => b { De with nx := dFor g b ds De, ct := dFor g b ds De, bk := De.nx } env1) : dFor g b (d :: ds) De env := h
def IlK (QA : List D → EV nf → Prop) : D → EV nf → Prop := fun d env1 => ∃ xs, lsOf d = some xs ∧ QA xs env1
theorem iL_s (h : da env (IlK QA)) : iL da env QA := h
theorem ilK_s {xs : List D} (h : QA xs env) : IlK QA (.lst xs) env := ⟨xs, rfl, h⟩
def ItK (QA : List D → EV nf → Prop) : D → EV nf → Prop := fun d env1 => ∃ xs, d = .tup xs ∧ QA xs env1
theorem iT_s (h : da env (ItK QA)) : iT da env QA := h
theorem itK_s {xs : List D} (h : QA xs env) : ItK QA (.tup xs) env := ⟨xs, rfl, h⟩
def IsK (QA : List D → EV nf → Prop) : D → EV nf → Prop := fun d env1 => ∃ z, d = .str z ∧ QA (signsD z) env1
theorem iS_s (h : da env (IsK QA)) : iS da env QA := h
theorem isK_s {s : Str} (h : QA (signsD s) env) : IsK QA (.str s) env := ⟨s, rfl, h⟩
def Ir1K (QA : List D → EV nf → Prop) : List D → EV nf → Prop := fun ds env1 => ∃ n : Int, ds = [.int n] ∧ (-(2 ^ 62) ≤ n ∧ n < 2 ^ 62) ∧ QA (rangeD 0 n.toNat) env1
theorem iR1_s (h : ra env (Ir1K QA)) : iR1 ra env QA := h
theorem ir1K_s {n : Int} (hb : -(2 ^ 62) ≤ n ∧ n < 2 ^ 62) (h : QA (rangeD 0 n.toNat) env) : Ir1K QA [.int n] env := ⟨n, rfl, hb, h⟩
def LcK (g : DG nf) (ta : DB nf) (da : DT nf) (js : List Nat) (Q : D → EV nf → Prop) : List D → EV nf → Prop := fun ds env1 => dComp g ta da js ds [] (wipeD env1 js) fun acc env2 => Q (.lst acc) env2
theorem dLc_s {g : DG nf} {js : List Nat} (h : ra env (LcK g ta da js Q)) : dLc ra g ta da js env Q := h
theorem lcK_s {g : DG nf} {js : List Nat} {ds : List D} (e : wipeD env js = env') (h : dComp g ta da js ds [] env' fun acc env2 => Q (.lst acc) env2) : LcK g ta da js Q ds env := bxU (by simp (disch := with_unfolding_all (subst e; exact h)) only [bxI])
/-- a comprehension without a test whose element changes nothing -/
theorem lc_map {j : Nat} {de : DT nf} {Q : List D → EV nf → Prop} {env : EV nf} (f : D → D) (hj : env[j]? = some .un) {ds : List D}
    (he : ∀ x ∈ ds, ∀ R : D → EV nf → Prop, R (f x) (env.set j (.fz x)) → de (env.set j (.fz x)) R) (hl : ds.length ≤ 1000000) (q : Q (ds.map f) env) : dComp (gN j) dYes de [j] ds [] env Q := bxU (by simp (disch := with_unfolding_all
  exact lc_pure (fun _ => true) f hj (fun x _ R r => r) (fun x m _ R r => he x m R r) (by simpa using hl) (by rw [List.nil_append, List.filter_eq_self.mpr (fun _ _ => rfl)]; exact q)) only [bxI])
theorem mem_signs {s : Str} {x : D} (h : x ∈ signsD s) : ∃ c ∈ s.cps.toList, x = .str ⟨#[c]⟩ := bxU (by simp (disch := with_unfolding_all
  simp only [signsD, List.mem_map] at h
  obtain ⟨c, hc, e⟩ := h
  exact ⟨c, hc, e.symm⟩) only [bxI])
theorem signs_len {s : Str} : (signsD s).length = s.length := by simp [signsD, Str.length]
theorem atI_of {α : Type} {xs : List α} {k : Int} (h0 : 0 ≤ k) (h : k < xs.length) : atI xs k = xs[k.toNat]? := bxU (by simp (disch := with_unfolding_all
  unfold atI ixN
  rw [if_pos h0, if_pos h]
  rfl) only [bxI])
theorem atI_ex {α : Type} {xs : List α} {k : Int} (h0 : 0 ≤ k) (h : k < xs.length) : ∃ z ∈ xs, atI xs k = some z ∧ xs[k.toNat]? = some z := bxU (by simp (disch := with_unfolding_all
  have hk : k.toNat < xs.length := by omega
  exact ⟨xs[k.toNat], List.getElem_mem hk, by rw [atI_of h0 h]; exact List.getElem?_eq_getElem hk, List.getElem?_eq_getElem hk⟩) only [bxI])
theorem atI_zero {α : Type} {x : α} {xs : List α} : atI (x :: xs) 0 = some x := bxU (by simp (disch := with_unfolding_all (rw [atI_of (by omega) (by simp)]; rfl)) only [bxI])
theorem flat_strs : ∀ (ss : List Str), flatDs (ss.map D.str) = some (ss.map V.str)
  | [] => rfl
  | s :: ss => by show ((flatD (.str s)).bind fun v => (flatDs (ss.map D.str)).map fun vs => v :: vs) = _; rw [flat_strs ss]; rfl
theorem bo_nil : BackOk ([] : List (SD nf)) env := bxU (by simp (disch := with_unfolding_all (cases env <;> trivial)) only [bxI])
theorem bo_fz {s : SD nf} {as : List (SD nf)} (h : BackOk as env) : BackOk (.fz d :: as) (s :: env) := h
theorem bo_un {s : SD nf} {as : List (SD nf)} (h : BackOk as env) : BackOk (.un :: as) (s :: env) := h
theorem bo_ow {v : V} {A A' : OA nf} {as : List (SD nf)} (h : BackOk as env) : BackOk (.ow v A :: as) (.ow v A' :: env) := ⟨.inl ⟨_, rfl⟩, h⟩
theorem bo_fr {v : V} {A : OA nf} {as : List (SD nf)} (h : BackOk as env) : BackOk (.ow v A :: as) (.fr v d :: env) := ⟨.inr ⟨_, rfl⟩, h⟩
theorem back_nil : back ([] : List (SD nf)) env = [] := bxU (by simp (disch := with_unfolding_all (cases env <;> rfl)) only [bxI])
theorem back_fz {s : SD nf} {as : List (SD nf)} : back (.fz d :: as) (s :: env) = .fz d :: back as env := rfl
theorem back_un {s : SD nf} {as : List (SD nf)} : back (.un :: as) (s :: env) = .un :: back as env := rfl
theorem back_ow {s : SD nf} {v : V} {A : OA nf} {as : List (SD nf)} : back (.ow v A :: as) (s :: env) = s :: back as env := rfl
theorem pb_nil {as : List (SD nf)} : putBack env [] as = env := bxU (by simp (disch := with_unfolding_all (cases as <;> rfl)) only [bxI])
theorem pb_v {s : SD nf} {r : List AD} {as : List (SD nf)} : putBack env (.v d :: r) (s :: as) = putBack env r as := rfl
theorem pb_o {s : SD nf} {r : List AD} {as : List (SD nf)} : putBack env (.o i :: r) (s :: as) = putBack (env.set i s) r as := rfl
theorem rs_v : resolve env (.v d) = .fz d := rfl
theorem rs_o : resolve env (.o i) = (env[i]?).getD .un := rfl
theorem wp_nil : wipeD env [] = env := rfl
theorem wp_cons {js : List Nat} : wipeD env (j :: js) = (wipeD env js).set j .un := rfl
theorem fnRt_s {as as' : List (SD nf)} {Qd : D → List (SD nf) → Prop} (hb : BackOk as env) (e : back as env = as') (h : Qd d as') : (fnEnds as Qd).rt d env := ⟨hb, by rw [e]; exact h⟩
theorem fnNx_s {as as' : List (SD nf)} {Qd : D → List (SD nf) → Prop} (hb : BackOk as env) (e : back as env = as') (h : Qd .non as') : (fnEnds as Qd).nx env := ⟨hb, by rw [e]; exact h⟩
theorem fnRo_s {as as' : List (SD nf)} {Qd : SD nf → List (SD nf) → Prop} {v : V} {A : OA nf} (hb : BackOk as env) (e : back as env = as') (h : Qd (.ow v A) as') : (fnEndsO as Qd).ro v A env := ⟨hb, by rw [e]; exact h⟩
end
end DL
namespace DL
open PySem L2
end DL
namespace DL
open PySem L2
theorem kit_of {K : PySem.W.Frag} {C : Addr} {t : Value} {b : Bool} {x : _} (h1 : PySem.W.clsIn K C = some x) (h2 : PySem.W.typeIn K (.ref C) = some (.type "type")) (h3 : PySem.W.subIn K t (.ref C) = some b) (hn : (t == .ref C) = false) : PySem.W.kitOne K t (.ref C) = some b := bxU (by simp (disch := with_unfolding_all
  unfold PySem.W.kitOne PySem.W.kitCls
  rw [if_neg (by rw [hn]; exact Bool.false_ne_true)]
  show (if ((PySem.W.clsIn K C).isSome && PySem.W.typeIn K (.ref C) == some (.type "type")) = true then PySem.W.subIn K t (.ref C) else none) = some b
  rw [h1, h2]
  exact h3) only [bxI])
theorem toSp_start {K : PySem.W.Frag} {nf : NFs} {S : SpD nf} {H : Hp} {a : Addr} {ns : List Int} {E : XK} (hO : Only H) (hS : SqL K H a (ns.map V.int)) (h : S [.fz (.scr ns)] fun d _ => d = .bl true) : toSp K nf 1 S [.ref a] H (fun v _ => v = .bl true) E := by
  have sl : SlotR K nf H (some (.ref a)) [] (.fz (.scr ns)) := ⟨rfl, _, rfl, .scr (.of hS hO)⟩
  have R : EnvL K nf H [some (.ref a)] [.fz (.scr ns)] ([] ++ []) := .cons sl .nil (fun a m => by cases m)
  refine ⟨rfl, [.fz (.scr ns)], [], _, rfl, R, h, fun v H' d as' fp' _ r _ _ q => ?_⟩
  subst q
  exact rel_bl r
end DL
namespace DL
open PySem L2
/-- what is wished of an error: its class, its fields, the slots -/
abbrev XcD (nf : NFs) := Addr → List (Str × D) → EV nf → Prop
/-- W takes what xc takes -/
structure Link (K : PySem.W.Frag) (nf : NFs) [Anch nf] (W : WX) (xc : XcD nf) : Prop where
  to : ∀ {C d fs fds σ H env fp}, EnvR K nf H σ env fp → H d = some (.xd fs) → RelF K nf H fs fds → d ∉ fp → (∃ fp1 H1, Anch.p nf fp1 H1 ∧ H1 d = none) → xc C fds env → W (.ref C) (some d) σ H
abbrev SpX (nf : NFs) := List (SD nf) → (D → List (SD nf) → Prop) → (Addr → List (Str × D) → List (SD nf) → Prop) → Prop
def toSpX (K : PySem.W.Frag) (nf : NFs) (n : Nat) (S : SpX nf) : Sp := fun vs H Q E => vs.length = n ∧ ∃ as fp Qd Xd, as.length = n ∧ EnvL K nf H (vs.map some) as fp ∧ S as Qd Xd ∧
  (∀ v H' d as' fp', as'.length = n → Rel K nf H' v d → EnvL K nf H' (vs.map some) as' fp' → Ch nf fp H fp' H' → Qd d as' → Q v H') ∧
  ∀ C d fs fds H' as' fp', as'.length = n → EnvL K nf H' (vs.map some) as' fp' → Ch nf fp H fp' H' → H' d = some (.xd fs) → RelF K nf H' fs fds → d ∉ fp' → H d = none → Xd C fds as' → E (.ref C) (some d) H'
/-- at an error out of the body the owned parameters are still in their slots -/
def fnXc {nf : NFs} (as : List (SD nf)) (Xd : Addr → List (Str × D) → List (SD nf) → Prop) : XcD nf := fun C fds env => BackOk as env ∧ Xd C fds (back as env)
section
variable {X : Cx} {nf : NFs} [Anch nf] {K : PySem.W.Frag} {W : WX} {xc : XcD nf}
def dCallX (xc : XcD nf) (n : Nat) (S : SpX nf) (dds : List D) (r : DM nf) : DT nf := fun env Q => r env fun ads env1 => ads.length + dds.length = n ∧ (slotsOf (ads ++ dds.map AD.v)).Nodup ∧ (∀ i ∈ slotsOf (ads ++ dds.map AD.v), i < env1.length) ∧
  S ((ads ++ dds.map AD.v).map (resolve env1)) (fun d as' => Q d (putBack env1 (ads ++ dds.map AD.v) as')) fun C fds as' => xc C fds (putBack env1 (ads ++ dds.map AD.v) as')
theorem spX_run {S : SpX nf} {n : Nat} {σ : St} {H : Hp} {Q : VK} {env : EV nf} {fp : List Addr} {vs : List V} {ads : List AD} {Qd : D → EV nf → Prop} (lk : Link K nf W xc) (R : EnvR K nf H σ env fp) (M : ArgsM K nf H σ vs ads) (hn : ads.length = n)
    (nd : (slotsOf ads).Nodup) (hin : ∀ i ∈ slotsOf ads, i < env.length) (s : S (ads.map (resolve env)) (fun d as' => Qd d (putBack env ads as')) fun C fds as' => xc C fds (putBack env ads as'))
    (k : ∀ v H' d env' fp', Rel K nf H' v d → EnvR K nf H' σ env' fp' → Ch nf fp H fp' H' → Qd d env' → Q v H') : toSpX K nf n S vs H Q (WE W σ) := bxU (by simp (disch := with_unfolding_all
  obtain ⟨fpa, RA, put⟩ := R.args M nd hin
  refine ⟨by rw [M.len, hn], _, fpa, _, _, by rw [List.length_map, hn], RA, s, fun v H' d as' fp' hl r R' c q => ?_, fun C d fs fds H' as' fp' hl R' c hd rf ndf hnew q => ?_⟩
  · obtain ⟨fp2, R2, c2, _⟩ := put H' as' fp' (by rw [hl, hn]) R' c
    exact k v H' d _ fp2 r R2 c2 q
  · obtain ⟨fp2, R2, c2, sub2, _⟩ := put H' as' fp' (by rw [hl, hn]) R' c
    refine lk.to R2 hd rf (fun m => ?_) ⟨fp, H, R.2, hnew⟩ q
    rcases sub2 d m with z | ⟨z, _⟩
    · exact ndf z
    · obtain ⟨u, e, _⟩ := R.trk d z
      rw [hnew] at e; cases e) only [bxI])
/-- what making an error of the class at C leaves: its fields in its own dict -/
def tMkE (C : Addr) (ms : List Str) (ta : TA) : St → Hp → XK → Prop := fun σ H Q => ta σ H fun vs H1 => vs.length = ms.length ∧ ∀ d, H1 d = none → Q (.ref C) (some d) (upd H1 d (.xd (ms.zip vs)))
def sRaise (xc : XcD nf) (C : Addr) (ms : List Str) (r : DAs nf) : DTS nf := fun _ env => r env fun ds env1 => ds.length = ms.length ∧ xc C (ms.zip ds) env1
theorem relF_zip {H : Hp} : ∀ {vs : List V} {ds : List D} (ms : List Str), Rels K nf H vs ds → RelF K nf H (ms.zip vs) (ms.zip ds)
  | _, _, [], _ => by simp only [List.zip_nil_left]; exact .nil
  | _, _, _ :: _, .nil => .nil
  | _, _, m :: ms, .cons h r => .cons h (relF_zip ms r)
theorem ds_raise {e : Expr} {es : List Expr} {C : Addr} {ms : List Str} {r : DAs nf} {pos : Pos} (hc : X.calm = true) (tk : Takes X W) (lk : Link X.K nf W xc) (hm : ∀ {ta : TA}, PA X es ta → PMk X e (tMkE C ms ta)) (ha : DA X nf es r) : DS X nf (.Raise (some e) none pos) (sRaise xc C ms r) := bxU (by simp (disch := with_unfolding_all
  exact ps_imp (ps_raise hc tk (hm ha)) fun E σ H ⟨env, fp, De, R, q, br⟩ => ⟨env, fp, _, R, q, fun vs H1 ds env1 fp1 r1 R1 c1 ⟨hl, q1⟩ => ⟨by rw [r1.length, hl], fun d hd => by
    have x : Xt H1 (upd H1 d (.xd (ms.zip vs))) := Xt.new hd
    refine lk.to (R1.ext x) upd_same ((relF_zip ms r1).mono x.stp) (fun m => ?_) ⟨fp1, H1, R1.2, hd⟩ q1
    obtain ⟨u, e, _⟩ := R1.trk d m
    rw [hd] at e; cases e⟩⟩) only [bxI])
end
end DL
namespace DL
open PySem PySem.W PySem.Calls PyProof.Rows PySem.HandSPX
inductive FldB : List Str → List Stmt → Prop
  | nil : FldB [] []
  | cons {f : Str} {fl : List Str} {ss : List Stmt} {q1 q2 q3 q4 : Pos} (h : FldB fl ss) : FldB (f :: fl) (.Assign [.Attribute (.Name "self" q1) f q2] (.Name f q3) q4 :: ss)
def SupB (msg : Str) (fl : List Str) (body : List Stmt) : Prop := ∃ p0 p1 p2 p3 p4 p5 j ss, body = .Expr (.Call (.Attribute (.Call (.Name "super" p0) [] [] p1) "__init__" p2) [.Constant (.str msg) j p3] [] p4) p5 :: ss ∧
  (∀ env : Env, ∃ pl : Sem Bool, eval (.Call (.Attribute (.Call (.Name "super" p0) [] [] p1) "__init__" p2) [.Constant (.str msg) j p3] [] p4) env = (do
      let ov ← attributeBase (.Call (.Name "super" p0) [] [] p1) "__init__" env (eval (.Call (.Name "super" p0) [] [] p1) env)
      standAt p2.atName
      let (f, first) ← holding [ov] (getMethod ov "__init__" pl)
      callWith p4 f first (backTo p4 (starEach [.Constant (.str msg) j p3] env)) [])) ∧ FldB fl ss
/-- what the written part says of the error class at C and of its __init__ at fI -/
structure SupC (K : Frag) (prog : Program) (C fI : Addr) (fd : FuncData) (fl : List Str) : Prop where
  cls : ∃ nm q N bs bm sn sub ab col dd k0 k1 k2 k3 k5, K.lookup C = some (excClassObj nm q C N bs bm true sn sub ab col dd k0 k1 k2 k3 k5 "ValueError.__new__") ∧ refsVE bm = true ∧ alongIn K "__init__" bm = some (some (.builtin "ValueError.__init__"))
  sa : findIn K (.ref C) "__setattr__" = some (some (.builtin "object.__setattr__"))
  ga : findIn K (.ref C) "__getattribute__" = some (some (.builtin "BaseException.__getattribute__"))
  gg : findIn K (.ref C) "__getattr__" = some none
  noF : ∀ f ∈ fl, findIn K (.ref C) f = some none
  iC : findIn K (.ref C) "__init__" = some (some (.ref fI))
  tI : typeIn K (.ref fI) = some (.type "function")
  kC : keepIn K (.ref C) = true
  exC : subIn K (.ref C) (.type "BaseException") = some true
  sv : subIn K (.ref C) (.type "ValueError") = some true
  tyC : typeIn K (.ref C) = some (.type "type")
  hdC : hasDictIn K C = true
  op : nsIn K cStatics "thirdparty.any" = some none
  fn : ∃ oc od osl, K.lookup fI = some ⟨oc, od, .func fd, osl⟩
  body : ∃ msg ss, fd.body = .stmts ss ∧ SupB msg fl ss
  glob : fd.globals = mainGlobals
  blt : fd.builtins = builtinsNs
  code : codeIn K fd.code fd.qualname = true
  cdo : ∃ cda ccl cdd vs ccs file tf, fd.code = .ref cda ∧ K.lookup cda = some ⟨ccl, cdd, .fields vs, ccs⟩ ∧ vs[2]? = some (.str file tf) ∧ ((prog.main.file : Str) == file) = true
  cell : ∃ cc cl cld csl, fd.closure.lookup ("__class__" : Str) = some cc ∧ K.lookup cc = some ⟨cl, cld, .cell (some (.ref C)), csl⟩
  kind : fd.scope.kind = .function
  co : fd.scope.isCoroutine = false
  gen : fd.scope.isGenerator = false
  nocell : ∀ x ∈ fd.scope.names, x.2 ≠ .cell
  hks : fd.scope.names.lookup ("super" : Str) = some .globalImplicit
  hkc : fd.scope.names.lookup ("__class__" : Str) = some .free
  loc : ∀ y ∈ ("self" : Str) :: fl, fd.scope.names.lookup y = some .local
  par : ∃ ar : Arg, (fd.params.posonlyargs ++ fd.params.args).head? = some ar ∧ ar.arg = "self"
  bd : ∀ (s : Shared) (us : List Value), us.length = fl.length + 1 → BindsTo s fd ⟨us, []⟩ ((("self" : Str) :: fl).zip us)
  nd : (("self" : Str) :: fl).Nodup
  few : fl.length ≤ 100
  ne : fl ≠ []
  dbg : ∀ y ∈ ("self" : Str) :: fl, (y == ("__debug__" : Str)) = false
  htop : (prog.main.scope.names.lookup ("super" : Str)).isSome = false
theorem lookR : ∀ {l : List (Str × Value)} {k : Str} {v : Value}, (l.map (·.1)).Nodup → (k, v) ∈ l → l.reverse.lookup k = some v := by
  intro l k v nd m
  have nd' : (l.reverse.map (·.1)).Nodup := by rw [List.map_reverse]; exact ((List.reverse_perm _).nodup_iff).mpr nd
  have m' : (k, v) ∈ l.reverse := List.mem_reverse.mpr m
  generalize l.reverse = r at nd' m'
  induction r with
  | nil => cases m'
  | cons p r ih =>
    rw [List.map_cons, List.nodup_cons] at nd'
    rcases List.mem_cons.mp m' with e | m2
    · subst e; simp [List.lookup]
    · have : (k == p.1) = false := by
        simp only [beq_eq_false_iff_ne]
        intro e
        exact nd'.1 (e ▸ List.mem_map.mpr ⟨_, m2, rfl⟩)
      obtain ⟨pk, pv⟩ := p
      simp only [List.lookup, this]
      exact ih nd'.2 m2
/-- stores, one by one -/
def putsF : (Str → Option Value) → List (Str × Value) → Str → Option Value
  | m0, [] => m0
  | m0, (f, v) :: r => putsF (fun y => if y = f then some v else m0 y) r
theorem putsF_get : ∀ (l : List (Str × Value)) (m0 : Str → Option Value), (l.map (·.1)).Nodup → ∀ y, putsF m0 l y = (l.lookup y).or (m0 y)
  | [], m0, _, y => by simp [putsF]
  | (f, v) :: r, m0, nd, y => by
    rw [List.map_cons, List.nodup_cons] at nd
    show putsF (fun y => if y = f then some v else m0 y) r y = _
    rw [putsF_get r _ nd.2 y]
    by_cases e : y = f
    · subst e
      have : r.lookup y = none := by
        apply List.lookup_eq_none_iff.mpr
        intro p hp
        simp only [bne_iff_ne, ne_eq]
        exact fun e => nd.1 (List.mem_map.mpr ⟨p, hp, e.symm⟩)
      rw [this]
      simp [List.lookup]
    · have e' : (y == f) = false := by simpa using e
      simp [List.lookup, e', e]
section
variable {prog : Program} {w : World} {A : Around} {E : Value → Shared → Prop} {R : Result → Shared → Prop} {h : Heap} {g : Array GenState} {d : Drawn} {t : Nat} {os : OsState}
/-- ValueError.__init__, bound to e, called -/
theorem call_mwV {nm q : Str} {C N : Addr} {bs bm : List Value} {hdct : Bool} {sn : List Str} {sub : List Value} {ab : Bool} {col : Option Bool} {dd : Option Addr} {k0 k1 k2 k3 k5 : Option Value} {u e t0 : Addr} {rest : List Value} {Q : Value → Shared → Prop}
    (hC : h.get? C = some (excClassObj nm q C N bs bm hdct sn sub ab col dd k0 k1 k2 k3 k5 "ValueError.__new__")) (he : h.get? e = some (excO C t0)) (hu : h.get? u = some (kxs_mw "ValueError.__init__" e)) (hrest : rest.length ≤ sizeLine)
    (hq : ∀ h' t1, (∀ b o, b ≠ e → h.get? b = some o → h'.get? b = some o) → h'.get? e = some (excO C t1) → Q .none ⟨h', g, d, t, os⟩) : wpAny (model prog w) A (call (.ref u) rest) Q E ⟨h, g, d, t, os⟩ := bxU (by simp (disch := with_unfolding_all
  have FB := PySem.F.excBase_ValueError
  have wrapper : (Value.type "method-wrapper" == Value.type "method" || Value.type "method-wrapper" == Value.type "builtin_function_or_method" || Value.type "method-wrapper" == Value.type "method-wrapper") = true := by decide
  refine wpAny_call (codeAny_of_tree ?_)
  show wpAny _ A.in1 (callAny (.ref u) ⟨rest, []⟩) _ _ _
  unfold callAny
  refine wpAny_bind (wpAny_load hu ?_)
  dsimp only [kxs_mw]
  rw [if_pos wrapper]
  refine KFB.if_so (by decide) ?_
  refine wpAny_bind (check_bound_init FB.toExcCallFacts hC he rfl ?_)
  refine wpAny_bind (wpAny_pure (wpAny_pure ⟨plainId_quiet FB.init.plain _, codeAny_builtin FB.initEntry ?_⟩))
  exact exc_init_tree (cls := .ref C) (t0 := t0) (dv := none) (c2 := .none) (c3 := .none) (b4 := .bool false) he hrest fun h' k e' _ => hq h' _ k e') only [bxI])
end
section
variable {prog : Program} {w : World} {A : Around} {E : Value → Shared → Prop} {R : Result → Shared → Prop} {K : Frag} {C fI : Addr} {fd : FuncData} {fl : List Str}
/-- what __init__ leaves of a fresh exception at x -/
structure SupEnd (h h' : Heap) (x C dx : Addr) (l : List (Str × Value)) : Prop where
  keep : ∀ b o, b ≠ x → h.get? b = some o → h'.get? b = some o
  obj : ∃ t1, h'.get? x = some { cls := .ref C, dict := some dx, data := .fields #[.ref t1, .none, .none, .none, .bool false, .none] }
  dbig : h.objs.size ≤ dx
  dne : dx ≠ x
  ns : h'.Ns1 dx (putsF (fun _ => none) l)
/-- the fields behind the first -/
theorem more_flds (S : SupC K prog C fI fd fl) {env : Env} (hke : env.scope.kind = .function) (hsc : ∀ y ∈ ("self" : Str) :: fl, env.kindOf y = some .local) {x dx t1 : Addr} {cd : ClassData} (hcd : clsIn K C = some cd) (hm : refsVE cd.mro = true) (hh : cd.hasDict = true) {m : Str → Option Value} (hmx : m "self" = some (.ref x)) (hne : env.locals ≠ dx) (hnx : env.locals ≠ x)
    (hKd : K.lookup dx = none) (hKx : K.lookup x = none) (hxd : x ≠ dx) :
    ∀ (r : List (Str × Value)) (ss : List Stmt) (s : Shared) (m0 : Str → Option Value) (nl : List Str) (Q : Flow → Shared → Prop), FldB (r.map (·.1)) ss → (∀ p ∈ r, p.1 ∈ fl ∧ m p.1 = some p.2) → K.In s.heap → s.heap.Ns env.locals m →
      s.heap.get? x = some { cls := .ref C, dict := some dx, data := .fields #[.ref t1, .none, .none, .none, .bool false, .none] } → s.heap.Ns1 dx m0 → Within m0 nl → nl.length + r.length ≤ 1000 →
      (∀ h' tk, (∀ b o, b ≠ dx → s.heap.get? b = some o → h'.get? b = some o) → h'.Ns1 dx (putsF m0 r) → Q .next { s with heap := h', toks := tk }) → wpAny (model prog w) A (execs ss env) Q E s
  | [], ss, s, m0, nl, Q, hb, hv, X, hn, hx, hns, hw, hz, hq => by
    cases hb
    exact wpAny_execs_nil (hq s.heap s.toks (fun _ _ _ e => e) hns)
  | (f, v) :: r, ss, s, m0, nl, Q, hb, hv, X, hn, hx, hns, hw, hz, hq => by
    cases hb with
    | cons hb' =>
      obtain ⟨hf, hfv⟩ := hv (f, v) List.mem_cons_self
      obtain ⟨hp, g, dr, tk, os⟩ := s
      refine wpAny_execs_cons (plainObj_wpAny_Assign_Attribute ?_)
      refine ESX.ldL (m := m) hn hfv (ESX.ldL (m := m) hn hmx ?_ hke (hsc _ List.mem_cons_self) (S.dbg _ List.mem_cons_self)) hke (hsc _ (List.mem_cons_of_mem _ hf)) (S.dbg _ (List.mem_cons_of_mem _ hf))
      obtain ⟨oD, _, _, hoD, _, _⟩ := hns.count hw
      refine set_plain X (ox := { cls := .ref C, dict := some dx, data := .fields #[.ref t1, .none, .none, .none, .bool false, .none] }) (od := some oD) ⟨hx, rfl, rfl, hoD⟩ S.sa ?_
      refine OEX.osa_old X hx hns hw (by rw [List.length_cons] at hz; omega) hcd hm hh (S.noF f hf) fun h' tk' k' hn' => ?_
      have X' : K.In h' := fun b o e => k' b o (fun z => by rw [z, hKd] at e; cases e) (X b o e)
      have hnL : h'.Ns env.locals m := by
        obtain ⟨oL, es, ep, hL, r⟩ := hn
        exact ⟨oL, es, ep, k' _ _ hne hL, r⟩
      refine more_flds S hke hsc hcd hm hh hmx hne hnx hKd hKx hxd r _ ⟨h', g, dr, tk', os⟩ _ (f :: nl) Q hb' (fun p hp => hv p (List.mem_cons_of_mem _ hp)) X' hnL (k' _ _ hxd hx) hn' (Within.cons f v hw) (by rw [List.length_cons] at hz ⊢; omega) fun h2 tk2 k2 hn2 => ?_
      exact hq h2 tk2 (fun b o hb e => k2 b o hb (k' b o hb e)) hn2
end
section
variable {prog : Program} {w : World} {A : Around} {R : Result → Shared → Prop} {s : Shared} {K : Frag} {C fI : Addr} {fd : FuncData} {fl : List Str}
theorem sup_init (S : SupC K prog C fI fd fl) {x t0 : Addr} {vs : List Value} (hlen : vs.length = fl.length) (X : K.In s.heap) (hlim : s.heap.NoLimit) {mg mb : Str → Option Value} (hg : s.heap.Ns mainGlobals mg) (hmg : mg "super" = none) (hb : s.heap.Ns builtinsNs mb) (hmb : mb "super" = some (.type "super"))
    (hx : s.heap.get? x = some (excO C t0)) (hnx : K.lookup x = none) (hroom : A.depth < recursionLimit)
    (hq : ∀ h' tk dx, SupEnd s.heap h' x C dx (fl.zip vs) → R (.ok (.ret .none)) { s with heap := h', toks := tk }) :
    codeAny (model prog w) A (.call (.ref fI) ⟨.ref x :: vs, []⟩) R s := bxU (by simp (disch := with_unfolding_all
  obtain ⟨nm, q, N, bs, bm, sn, sub, ab, col, dd, k0, k1, k2, k3, k5, hC, hbm, hal⟩ := S.cls
  obtain ⟨oc, od, osl, ho⟩ := S.fn
  obtain ⟨msg, ss0, eb, p0, p1, p2, p3, p4, p5, j, ss, e0, hline, hfl⟩ := S.body
  subst e0
  obtain ⟨cda, ccl, cdd, vs2, ccs, file, tf, ecode, hcda, hvs, hfile⟩ := S.cdo
  obtain ⟨cc, cl, cld, csl, hclo, hcell⟩ := S.cell
  obtain ⟨ar, hpar, har⟩ := S.par
  have hcl : clsIn K C = some { name := nm, bases := bs, mro := .ref C :: bm, ns := N, qualname := q, hasDict := true, slotNames := sn, subclasses := sub, abstract := ab, collection := col, hasDel := false } := by unfold clsIn; rw [hC] <;> rfl
  have hzip : ((("self" : Str) :: fl).zip (Value.ref x :: vs)).map (·.1) = ("self" : Str) :: fl := by
    rw [List.map_fst_zip]
    rw [List.length_cons, List.length_cons, hlen]
    exact Nat.le_refl _
  have hsub : mroIn K C (.ref C) = some true := by
    unfold mroIn
    rw [hcl, Option.bind_some]
    simp
  refine ks_codeAny_call_defAt (fd := fd) (binds := (("self" : Str) :: fl).zip (.ref x :: vs)) hroom (X _ _ ho) rfl hlim (codeRec_of X S.code) eb (S.bd _ _ (by rw [List.length_cons, hlen])) S.nocell (fun y hy => S.loc y.1 (by rw [← hzip]; exact List.mem_map.mpr ⟨y, hy, rfl⟩)) (fun h₁ hn₁ k₁ => ?_) S.co S.gen S.kind
  obtain ⟨hp, g, dr, tk, os⟩ := s
  generalize hm : (fun x_1 => List.lookup x_1 ((("self" : Str) :: fl).zip (Value.ref x :: vs)).reverse) = m at hn₁
  have hms : m "self" = some (.ref x) := by
    rw [← hm]
    exact lookR (by rw [hzip]; exact S.nd) List.mem_cons_self
  have hmf : ∀ p ∈ fl.zip vs, m p.1 = some p.2 := fun p hp => by
    rw [← hm]
    exact lookR (by rw [hzip]; exact S.nd) (List.mem_cons_of_mem _ hp)
  have X₁ : K.In h₁ := X.keeps k₁
  have hx₁ := k₁ _ _ hx
  have hLx : hp.objs.size ≠ x := Nat.ne_of_gt (Heap.lt_size hx)
  have hLt : hp.objs.size < h₁.objs.size := hn₁.lt
  have hk : ∀ y, (callEnv fd hp.objs.size fI).kindOf y = fd.scope.names.lookup y := fun _ => rfl
  obtain ⟨oC, hoC, hoCd⟩ : ∃ oC, h₁.get? C = some oC ∧ oC.data = .cls { name := nm, bases := bs, mro := .ref C :: bm, ns := N, qualname := q, hasDict := true, slotNames := sn, subclasses := sub, abstract := ab, collection := col, hasDel := false } := ⟨_, X₁ _ _ hC, rfl⟩
  -- super().__init__("..")
  obtain ⟨pl, hev⟩ := hline (callEnv fd hp.objs.size fI)
  refine ks_wpAt_execs_cons (ks_wpAt_Expr_any (ks_wpAt_MethodCall (pl := pl) ?_ hev) ?_)
  · refine ks_wpAt_super_base (env := callEnv fd hp.objs.size fI) S.hks S.hkc (by decide) rfl (X₁ _ _ ho) rfl hpar ecode (X₁ _ _ hcda) rfl hvs hfile S.htop ?_
    refine ks_loadName_global S.kind S.hks (loadGlobal_builtin (env := callEnv fd hp.objs.size fI) (mg := mg) (mb := mb) ?_ hmg ?_ hmb ⟨rfl, ?_⟩)
    · show h₁.Ns fd.globals mg
      rw [S.glob]; exact hg.keeps k₁
    · show h₁.Ns fd.builtins mb
      rw [S.blt]; exact hb.keeps k₁
    refine wpAny_loadName_free S.kind S.hkc hclo ⟨_, X₁ _ _ hcell, rfl⟩ ?_
    rw [har]
    refine wpAny_loadName_local S.kind (S.loc _ List.mem_cons_self) hn₁ hms ?_
    refine ks_wpAny_isType_cls hoC hoCd ⟨rfl, ?_⟩
    refine ks_wpAny_call_super hoC hoCd hx₁ rfl (fun c e => by cases e) (looks_mroIn X₁ hsub) (fun h₂ e₂ k₂ => ?_)
    have X₂ : K.In h₂ := X₁.keeps k₂
    have hx₂ := k₂ _ _ hx₁
    have I₂ : InstAt h₂ x (excO C t0) C none := ⟨hx₂, rfl, rfl, trivial⟩
    refine kxs_getMethod kxs_ValueError e₂ (looks_opaque X₂ S.op) (l₀ := .ref C :: bm) ((looks_clsIn X₂ hcl).andThen .now) (ESX.drop_own C bm) X₂ hal (I₂.type.andThen (looks_subIn X₂ S.sv)) (ks_ne X₂ I₂ hcl) (by decide) ?_
    have k₃ : ∀ b o, h₂.get? b = some o → (h₂.push (kxs_mw "ValueError.__init__" x)).get? b = some o := fun b o e => Heap.get?_push_of_some _ e
    refine kxs_callWith (i := "ValueError.__init__") (x := x) rfl (evalArgs_plain ?_)
    show wpAny _ _ (spliced [(false, eval (.Constant (.str msg) j p3) (callEnv fd hp.objs.size fI))]) _ _ _
    refine spliced_cons (wpAny_Constant_str (spliced_nil ⟨?_, ?_⟩))
    · exact Heap.get?_push_at rfl rfl
    refine call_mwV (C := C) (X₂ _ _ hC |> k₃ _ _) (k₃ _ _ hx₂) (Heap.get?_push_at rfl rfl) (by rw [sizeLine_eq]; exact (by decide : 1 ≤ 16777216)) fun h₄ t1 k₄ hx₄ => ?_
    have keep : ∀ b o, b ≠ x → h₁.get? b = some o → h₄.get? b = some o := fun b o hb e => k₄ b o hb (k₃ b o (k₂ b o e))
    have X₄ : K.In h₄ := fun b o e => keep b o (fun z => by rw [z, hnx] at e; cases e) (X₁ b o e)
    have hn₄ : h₄.Ns hp.objs.size m := by
      obtain ⟨oL, es, ep, hL, r⟩ := hn₁
      exact ⟨oL, es, ep, keep _ _ hLx hL, r⟩
    -- the fields
    refine wpAt_of_wpAny ?_
    cases fl with
    | nil => exact absurd rfl S.ne
    | cons f fl' =>
      cases vs with
      | nil => cases hlen
      | cons v vs' =>
        cases hfl with
        | cons hfl' =>
          refine wpAny_execs_cons (plainObj_wpAny_Assign_Attribute ?_)
          have hf : f ∈ f :: fl' := List.mem_cons_self
          refine ESX.ldL (m := m) hn₄ (hmf (f, v) List.mem_cons_self) (ESX.ldL (m := m) hn₄ hms ?_ S.kind (S.loc _ List.mem_cons_self) (S.dbg _ List.mem_cons_self)) S.kind (S.loc _ (List.mem_cons_of_mem _ hf)) (S.dbg _ (List.mem_cons_of_mem _ hf))
          refine set_plain X₄ (ox := excO C t1) (od := none) ⟨hx₄, rfl, rfl, trivial⟩ S.sa ?_
          refine exc_osa X₄ hx₄ hcl (show refsVE (.ref C :: bm) = true from hbm) rfl (S.noF f hf) (fun h₅ tk₅ dx k₅ dn dne hx₅ hn₅ => ?_)
          have hLd : hp.objs.size < dx := Nat.lt_of_lt_of_le hn₄.lt dn
          have hKd : K.lookup dx = none := by
            cases e : K.lookup dx with
            | none => rfl
            | some o => exact absurd (Heap.lt_size (X₄ _ _ e)) (Nat.not_lt.mpr dn)
          have X₅ : K.In h₅ := fun b o e => k₅ b o (fun z => by rw [z, hnx] at e; cases e) (X₄ b o e)
          have hn5 : h₅.Ns hp.objs.size m := by
            obtain ⟨oL, es, ep, hL, r⟩ := hn₄
            exact ⟨oL, es, ep, k₅ _ _ hLx hL, r⟩
          have hr : (fl'.zip vs').map (·.1) = fl' := by
            rw [List.map_fst_zip]
            have : vs'.length = fl'.length := by simpa using hlen
            omega
          have hw : Within (fun y => if y = f then some v else none) [f] := Within.cons f v (Within.nil)
          refine more_flds S (env := callEnv fd hp.objs.size fI) S.kind (fun y hy => S.loc y hy) hcl (show refsVE (.ref C :: bm) = true from hbm) rfl hms (Nat.ne_of_lt hLd) hLx hKd hnx dne.symm (fl'.zip vs') _ ⟨h₅, g, dr, tk₅, os⟩ _ [f] _ (by rw [hr]; exact hfl') (fun p hp => ⟨?_, hmf p (List.mem_cons_of_mem _ hp)⟩) X₅ hn5 hx₅ hn₅ hw ?_ fun h₆ tk₆ k₆ hn₆ => ?_
          · have : p.1 ∈ (fl'.zip vs').map (·.1) := List.mem_map.mpr ⟨p, hp, rfl⟩
            rw [hr] at this
            exact List.mem_cons_of_mem _ this
          · have := S.few
            have h2 : (fl'.zip vs').length = fl'.length := by rw [← List.length_map (f := (·.1)), hr]
            rw [List.length_cons] at this
            show 1 + (fl'.zip vs').length ≤ 1000
            omega
          · refine hq h₆ tk₆ dx ⟨fun b o hb e => k₆ b o (fun z => ?_) (k₅ b o hb (keep b o hb (k₁ b o e))), ⟨t1, k₆ _ _ dne.symm hx₅⟩, Nat.le_of_lt hLd, dne, hn₆⟩
            have e : hp.get? b = some o := e
            subst z
            exact absurd (Heap.lt_size e) (Nat.not_lt.mpr (Nat.le_of_lt hLd))
  · unfold interactive
    have : (callEnv fd hp.objs.size fI).scope.kind = .function := S.kind
    rw [this]
    rfl) only [bxI])
end
section
variable {prog : Program} {w : World} {A : Around} {R : Result → Shared → Prop} {s : Shared} {K : Frag} {C fI : Addr} {fd : FuncData} {fl : List Str}
/-- a made error -/
structure SupMade (h h' : Heap) (e C d : Addr) (l : List (Str × Value)) : Prop where
  keep : ∀ b o, h.get? b = some o → h'.get? b = some o
  new : h.objs.size ≤ e
  obj : ∃ oe vs, h'.get? e = some oe ∧ oe.cls = .ref C ∧ oe.dict = some d ∧ oe.data = .fields vs ∧ vs[1]? = some .none
  dbig : h.objs.size ≤ d
  dne : d ≠ e
  ns : h'.Ns1 d (putsF (fun _ => none) l)
theorem sup_made (S : SupC K prog C fI fd fl) {vs : List Value} (hlen : vs.length = fl.length) (X : K.In s.heap) (hlim : s.heap.NoLimit) {mg mb : Str → Option Value} (hg : s.heap.Ns mainGlobals mg) (hmg : mg "super" = none) (hb : s.heap.Ns builtinsNs mb) (hmb : mb "super" = some (.type "super"))
    (hroom : A.depth + 1 < recursionLimit) (hq : ∀ h' tk e d, SupMade s.heap h' e C d (fl.zip vs) → R (.ok (.ret (.ref e))) { s with heap := h', toks := tk }) :
    codeAny (model prog w) A (.call (.ref C) ⟨vs, []⟩) R s := bxU (by simp (disch := with_unfolding_all
  obtain ⟨nm, q, N, bs, bm, sn, sub, ab, col, dd, k0, k1, k2, k3, k5, hC, hbm, hal⟩ := S.cls
  obtain ⟨hp, g, dr, tk, os⟩ := s
  have k : ∀ b o, hp.get? b = some o → ((hp.push (kdv_tup vs)).push (excO C hp.objs.size)).get? b = some o := fun b o e => Heap.get?_push_of_some _ (Heap.get?_push_of_some _ e)
  have hnew : ((hp.push (kdv_tup vs)).push (excO C hp.objs.size)).get? (hp.objs.size + 1) = some (excO C hp.objs.size) := by heap_get
  have hnx : K.lookup (hp.objs.size + 1) = none := by
    cases e : K.lookup (hp.objs.size + 1) with
    | none => rfl
    | some o =>
      have z : hp.get? (hp.objs.size + 1) = some o := X _ _ e
      exact absurd (Nat.lt_of_succ_lt (Heap.lt_size z)) (Nat.lt_irrefl _)
  have hfew := S.few
  refine call_own PySem.F.excBase_ValueError (fun X => refsVE_contains X bm hbm) (X _ _ hC) (looks_findIn X S.iC) (fun self => bind_fn X self S.tI) (by rw [hlen, sizeLine_eq]; omega) ?_
  refine sup_init (s := ⟨(hp.push (kdv_tup vs)).push (excO C hp.objs.size), g, dr, tk, os⟩) S hlen (X.keeps k) (hlim.keeps k) (hg.keeps k) hmg (hb.keeps k) hmb hnew hnx ?_ fun h' tk' dx Z => ?_
  · show A.depth + 1 < recursionLimit
    exact hroom
  · obtain ⟨k', ⟨t1, hx⟩, dn, dne, hns⟩ := Z
    have old : ∀ b o, hp.get? b = some o → h'.get? b = some o := fun b o e => k' b o (Nat.ne_of_lt (Nat.lt_succ_of_lt (Heap.lt_size e))) (k b o e)
    have z : hp.objs.size + 1 + 1 ≤ dx := by
      have y := dn
      rw [Heap.size_push, Heap.size_push] at y
      exact y
    exact ⟨rfl, hq h' tk' (hp.objs.size + 1) dx ⟨old, Nat.le_succ _, ⟨_, _, hx, rfl, rfl, rfl, rfl⟩, Nat.le_trans (Nat.le_add_right hp.objs.size 2) z, dne, hns⟩⟩) only [bxI])
end
end DL
namespace DL
open PySem PySem.Spec PyProof.Rows L2
theorem relO_zip : ∀ {vs : List V} {us : List Value}, Vals vs us → ∀ (fl : List Str) (f : Str), RelO ((fl.zip vs).lookup f) ((fl.zip us).lookup f)
  | _, _, .nil, fl, f => by simp only [List.zip_nil_right]; exact trivial
  | _, _, .cons r t, [], f => by simp only [List.zip_nil_left]; exact trivial
  | _, _, @Paired.cons _ _ _ v u vs us r t, m :: fl, f => by
    rw [List.zip_cons_cons, List.zip_cons_cons]
    by_cases e : f = m
    · subst e
      simp only [List.lookup, beq_self_eq_true]
      exact r
    · have e' : (f == m) = false := by simpa using e
      simp only [List.lookup, e']
      exact relO_zip t fl f
/-- C(e, ..), an error of one's own -/
theorem pmk_sup {X : Cx} {C fI : Addr} {fd : FuncData} {fl : List Str} {k : Nat} {x : Str} {a : Expr} {as : List Expr} {ta : TA} {p pos : Pos} (S : SupC X.K X.prog C fI fd fl) (hr : Room k X.A) (hg : Gl X x) (hm : X.mg x = some (.ref C)) (hms : X.mg "super" = none) (ha : PA X (a :: as) ta) (hdb : (x == ("__debug__" : Str)) = false := by decide)
    (he : starEach (a :: as) X.env = (false, eval a X.env) :: starEach as X.env := by rfl) (hpl : (backTo pos (starEach as X.env)).any (·.1) = false := by rfl) :
    PMk X (.Call (.Name x p) (a :: as) [] pos) (tMkE C fl ta) := by
  intro pins s σ H Q I h
  refine wpAny_Call_Name_kw (ld_glob I hg hm ?_ hdb)
  refine PySem.W.callWith_K (h₀ := X.base) I.ok.mod.kin S.kC (thn (ha.run pos pins s σ H _ I h) fun us s1 hh => ?_) he hpl
  obtain ⟨vs, H1, I1, r1, hlen, q1⟩ := hh
  refine ⟨I1.kIn, ?_⟩
  have hul : us.length = fl.length := by rw [← r1.length]; exact hlen
  have hlim := I1.nolimit
  obtain ⟨mb, hb1, hb2⟩ := I1.mod.blt
  have hgl : s1.heap.Ns mainGlobals X.mg := I1.mod.glob.keeps I1.bk
  have hbl : s1.heap.Ns builtinsNs mb := hb1.keeps I1.bk
  obtain ⟨hp, g, dr, tk, os⟩ := s1
  refine wpAny_call (sup_made S hul I1.kIn hlim hgl hms hbl ((hb2 "super" (by decide)).trans (by decide +kernel)) (by have := hr.dp; omega) fun h' tk' e d M => ?_)
  show MkP X pins σ Q (.ref e) ⟨h', g, dr, tk', os⟩
  obtain ⟨oe, fv, hoe, hc, hd, hdat, h1⟩ := M.obj
  have hns : h'.Ns1 d (putsF (fun _ => none) (fl.zip us)) := M.ns
  obtain ⟨G', g1, g2⟩ := restrict h' fun b => decide (b ≠ e)
  have gk : ∀ b, b ≠ e → G'.get? b = h'.get? b := fun b hb => g1 b (decide_eq_true hb)
  have ge : G'.get? e = none := g2 e (by simp)
  have old : ∀ b o, hp.get? b = some o → G'.get? b = some o := fun b o q => (gk b (Nat.ne_of_lt (Nat.lt_of_lt_of_le (Heap.lt_size q) M.new))).trans (M.keep b o q)
  have ob : ObjOk X.prog X.w (upd H1 d (.xd (fl.zip vs))) G' d (.xd (fl.zip vs)) :=
    ⟨_, hns.at (fun o q => (gk d M.dne).trans q), fun f => by
      have nd : ((fl.zip us).map (·.1)).Nodup := by
        rw [List.map_fst_zip (by omega)]
        exact (List.nodup_cons.mp S.nd).2
      rw [putsF_get _ _ nd]
      have := relO_zip r1 fl f
      cases z : (fl.zip us).lookup f with
      | none => rw [z] at this; exact this
      | some u => rw [z] at this; exact this⟩
  have J : Inv X pins σ (upd H1 d (.xd (fl.zip vs))) ⟨G', g, dr, tk', os⟩ := I1.laid (t' := tk') old M.dbig ob
  refine ⟨e, oe, fv, ⟨G', g, dr, tk', os⟩, _, .ref C, some d, rfl, J, fun b o q => ?_, ge, hoe, ⟨hc, hd⟩, hdat, h1, ?_, rfl, I1.bare, raises_own S.exC S.tyC, q1 d (I1.hok.fresh M.dbig)⟩
  · by_cases hb : b = e
    · have q' : G'.get? b = some o := q
      rw [hb, ge] at q'; cases q'
    · exact (gk b hb).symm.trans q
  · rw [upd_ne (Ne.symm M.dne)]
    exact I1.hok.fresh M.new
end DL
namespace DL
open PySem L2
/-- the caught error: its own dict d holds the fields -/
def excA (K : PySem.W.Frag) (nf : NFs) (d : Addr) (fds : List (Str × D)) : OA nf where
  inv v fp H := fp = [d] ∧ ∃ fs, H d = some (.xd fs) ∧ RelF K nf H fs fds
  frame := by
    rintro v fp H H' ⟨e, fs, h, r⟩ k st
    subst e
    exact ⟨rfl, fs, by rw [k d List.mem_cons_self]; exact h, r.mono st⟩
  trk := by
    rintro v fp H ⟨e, fs, h, r⟩ a m
    subst e
    rw [List.mem_singleton.mp m]
    exact ⟨_, h, fun z => z, nofun, nofun⟩
  nd := by
    rintro v fp H ⟨e, _⟩
    subst e
    simp
def unSlot {nf : NFs} (i : Nat) (De : EndsD nf) : EndsD nf := { nx := fun e => De.nx (e.set i .un), rt := De.rt, bk := fun e => De.bk (e.set i .un), ct := fun e => De.ct (e.set i .un) }
/-- the anchor, and what has changed since the try began -/
@[reducible] def anchAt {nf : NFs} (AO : Anch nf) (fp : List Addr) (H : Hp) : Anch nf := ⟨fun fp' H' => AO.p fp' H' ∧ Ch nf fp H fp' H', fun p c => ⟨AO.up p.1 c, p.2.trans c⟩⟩
/-- what the written part says of an error class whose instances are looked at -/
structure ExI (K : PySem.W.Frag) (C : Addr) : Prop where
  cl : (PySem.W.clsIn K C).isSome = true
  ga : PySem.W.findIn K (.ref C) "__getattribute__" = some (some (.builtin "BaseException.__getattribute__"))
  gg : PySem.W.findIn K (.ref C) "__getattr__" = some none
  ex : PySem.W.subIn K (.ref C) (.type "BaseException") = some true
  hd : PySem.W.hasDictIn K C = true
  ha : PySem.W.findIn K (.ref C) "__class__" = some (some (.builtin "object.__class__"))
  hn : PySem.W.specialIn K (.builtin "object.__class__") "__get__" = some (some (.builtin "getset_descriptor.__get__"))
  htk : PySem.W.takesIn K (.builtin "object.__class__") = some true
  hm : PySem.W.mroIn K C (.type "object") = some true
section
variable {X : Cx} {nf : NFs} [Anch nf] {i : Nat} {a C d : Addr} {oe : Obj} {pn : List (Addr × Obj)}
theorem exc_at {pins : List (Addr × Obj)} {σ : St} {H : Hp} {s : Shared} {fs : List (Str × V)} (I : Inv (X.suite a ((a, oe) :: pn)) pins σ H s) (hz : Zc (.ref C) (some d) oe) (hf : ∃ vs, oe.data = .fields vs) (ed : H d = some (.xd fs)) :
    ∃ (od : Obj) (mA : Str → Option Value), PySem.W.InstAt s.heap a oe C (some od) ∧ (∀ f, PySem.W.lookIn f od = some (mA f)) ∧ ∀ f, RelO (fs.lookup f) (mA f) := bxU (by simp (disch := with_unfolding_all
  obtain ⟨ha, _⟩ := I.pin (a, oe) (List.mem_append_left _ List.mem_cons_self)
  obtain ⟨vs, hd⟩ := hf
  have hx : ObjOk X.prog X.w H s.heap d (.xd fs) := I.hok d _ ed
  obtain ⟨mA, hns, hr⟩ := hx
  obtain ⟨od, ho, hl⟩ := lookIn_ns hns
  exact ⟨od, mA, ⟨ha, hz.1, by unfold PySem.W.notCls; rw [hd] <;> rfl, by rw [hz.2]; exact ho⟩, hl, hr⟩) only [bxI])
theorem EnvR.excAt {K : PySem.W.Frag} {H : Hp} {σ : St} {env : EV nf} {fp : List Addr} {v : V} {fds : List (Str × D)} (R : EnvR K nf H σ env fp) (e : env[i]? = some (.ow v (excA K nf d fds))) : σ[i]? = some (some v) ∧ ∃ fs, H d = some (.xd fs) ∧ RelF K nf H fs fds := bxU (by simp (disch := with_unfolding_all
  obtain ⟨o, fi, e1, ⟨eo, _, fs, h, r⟩, _, _⟩ := R.at e
  subst eo
  exact ⟨e1, fs, h, r⟩) only [bxI])
/-- e.f -/
def dExF (K : PySem.W.Frag) (a C d : Addr) (i : Nat) (f : Str) : DT nf := fun env Q => ExI K C ∧ PySem.W.findIn K (.ref C) f = some none ∧ ∃ fds x, env[i]? = some (.ow (.ref a) (excA K nf d fds)) ∧ fds.lookup f = some x ∧ Q x env
theorem de_exF {e : Expr} {f : Str} {pos : Pos} (hz : Zc (.ref C) (some d) oe) (hf : ∃ vs, oe.data = .fields vs) (he : PE (X.suite a ((a, oe) :: pn)) e (tVar i)) (hb : attributeBase e f X.env (eval e X.env) = eval e X.env := by rfl) : DE (X.suite a ((a, oe) :: pn)) nf (.Attribute e f pos) (dExF X.K a C d i f) := bxU (by simp (disch := with_unfolding_all
  refine ⟨fun pins s σ H Q I h => ?_⟩
  obtain ⟨env, fp, Qd, R, ⟨T, nF, fds, x, e1, e2, q⟩, k⟩ := h
  obtain ⟨es, fs, hd, rf⟩ := R.excAt e1
  refine attr_of hb (thn (he.run pins s σ H (fun v H' => v = .ref a ∧ H' = H) I ⟨_, es, rfl, rfl⟩) fun u s1 hh => ?_)
  obtain ⟨v, H1, I1, rx, rfl, rfl⟩ := hh
  obtain rfl : u = Value.ref a := rx
  obtain ⟨od, mA, J, hl, hr⟩ := exc_at I1 hz hf hd
  obtain ⟨w, ew, rw'⟩ := rf.lookup e2
  obtain ⟨u, hu, ru⟩ := RelO.some_of (v := w) (o := mA f) (by rw [← ew]; exact hr f)
  exact HandSPX.exc_get I1.kIn J T.ga T.gg T.ex (PySem.W.findObj_own T.hd nF rfl (by rw [hl, hu])) (handed_of ru) ⟨w, H1, I1.tok _, ru, k w H1 x env fp rw' R Ch.refl q⟩) only [bxI])
/-- isinstance(e, T) -/
def dExIs (K : PySem.W.Frag) (a C d : Addr) (i : Nat) (T : Addr) : DT nf := fun env Q => ExI K C ∧ ∃ fds b, env[i]? = some (.ow (.ref a) (excA K nf d fds)) ∧ PySem.W.kitOne K (.ref C) (.ref T) = some b ∧ Q (.bl b) env
end
end DL
namespace DL
open PySem PySem.Spec PyProof.Rows L2
structure NokC (P : Program) (w : World) (K : PySem.W.Frag) (mg : Str → Option Value) (base : Heap) (CX : CXT) (k : Nat) (W : NFd) (ps : List Str) (sp : List V → Sp) : Prop where
  len : ∀ ws vs H Q E, sp ws vs H Q E → vs.length = ps.length
  run : ∀ (f c : Addr) (cl : List (Str × Addr)) (A : Around) (outer : List Env) (s : Shared) (H : Hp) (us : List Value) (vs ws : List V) (Q : VK) (E : XK), Room k A → Env0 P w K mg base A outer s H → H f = some (FnOW f W cl c) → H c = some (LamX.CodeO c W.qual) →
    NdefX.CellsAt cl W.fr (ws.map some) s.heap H → Vals vs us → sp ws vs H Q E → codeAny (model P w) A (.call (.ref f) ⟨us, []⟩) (CR CX outer P w H s Q E) s
section
variable {CX : CXT} {P : Program} {w : World} {K : PySem.W.Frag} {mg : Str → Option Value} {base : Heap} {N ps : List Str} {W : NFd} {k j : Nat} {sp : List V → Sp}
theorem NokC.mono (o : NokC P w K mg base CX j W ps sp) (h : j ≤ k) : NokC P w K mg base CX k W ps sp := ⟨o.len, fun f c cl A outer s H us vs ws Q E hr => o.run f c cl A outer s H us vs ws Q E (hr.mono h)⟩
end
end DL
namespace DL
open PySem PySem.Spec PyProof.Rows L2
end DL
namespace DL
open PySem L2 LamX
/-- the program's tables are known -/
def TabsA (nf : NFs) (H : Hp) : Prop := ∀ P ∈ nf.tbs, NdefX.TabN H P nf.nm
class TabAnch (nf : NFs) [Anch nf] : Prop where
  tab : ∀ {fp H}, Anch.p nf fp H → TabsA nf H
theorem TabsA.ch {nf : NFs} {fp fp' : List Addr} {H H' : Hp} (t : TabsA nf H) (c : Ch nf fp H fp' H') : TabsA nf H' := fun P hP => c.tab P (fun _ => t P hP) hP
section
variable {X : Cx} {nf : NFs} {K : PySem.W.Frag}
def toSpT (K : PySem.W.Frag) (nf : NFs) (n : Nat) (S : SpD nf) : Sp := fun vs H Q E => TabsA nf H ∧ toSp K nf n S vs H Q E
theorem body_okT {body : List Stmt} {td : DTS nf} {N : List Str} {n : Nat} {S : SpD nf} (h : ∀ (A : Anch nf), @TabAnch nf A → @DSs X nf A body td) (hn : n ≤ N.length) (hb : ∀ as Qd, as.length = n → S as Qd → td (fnEnds as Qd) (as ++ List.replicate (N.length - n) .un))
    {vs : List V} {H : Hp} {Q : VK} {E : XK} (hs : toSpT X.K nf n S vs H Q E) : ∃ t, PSs X body t ∧ t { nx := fun _ H' => Q .non H', rt := Q } (start N vs) H := bxU (by simp (disch := with_unfolding_all
  obtain ⟨ht, hv, as, fp, Qd, hl, R, s, k⟩ := hs
  let A : Anch nf := ⟨fun _ H' => TabsA nf H', fun p c => p.ch c⟩
  have R0 : EnvL X.K nf H (start N vs) (as ++ List.replicate (N.length - n) .un) fp := by
    have := R.pad (N.length - n)
    rw [← hv] at this ⊢
    exact this
  refine ⟨_, h A ⟨fun p => p⟩, as ++ List.replicate (N.length - n) .un, fp, fnEnds as Qd, ⟨R0, ht⟩, hb as Qd hl s, ?_⟩
  refine ⟨fun σ' H' env' fp' R' c ⟨b, q⟩ => ?_, fun v d σ' H' env' fp' r R' c ⟨b, q⟩ => ?_, fun σ' H' env' fp' R' c q => q.elim, fun σ' H' env' fp' R' c q => q.elim, fun _ _ _ _ _ _ _ _ _ _ _ q => q.elim⟩
  · obtain ⟨fq, R2, sub⟩ := EnvL.back (c.stpL R0) R R'.1 b
    exact k .non H' .non _ fq (by rw [back_len, hl]) .non R2 ⟨c.keep, fun a m => c.sub a (sub a m), c.there, c.tab⟩ q
  · obtain ⟨fq, R2, sub⟩ := EnvL.back (c.stpL R0) R R'.1 b
    exact k v H' d _ fq (by rw [back_len, hl]) r R2 ⟨c.keep, fun a m => c.sub a (sub a m), c.there, c.tab⟩ q) only [bxI])
end
section
variable {X : Cx} {nf : NFs} [Anch nf] {K : PySem.W.Frag} {CX : CXT} {i k n : Nat} {f : Addr} {fd : FuncData} {ps : List Str} {S : SpD nf} {dvs : List V} {dds : List D} {ds : List Value} {E : XK} {x : Str} {p pos : Pos} {e : Expr} {es : List Expr}
theorem de_callTb {r : DM nf} (tb : TabAnch nf) (F : FnOk X.prog X.w X.K X.mg X.base CX k f fd ps (toSpT X.K nf n S)) (hr : Room k X.A) (hg : Gl X x) (hm : X.mg x = some (.ref f)) (hk : PySem.W.keepIn X.K (.ref f) = true) (hb : Binds X.K fd ps ds) (hd : Vals dvs ds) (hdd : ∀ H, Rels X.K nf H dvs dds) (hx : Passes CX X E)
    (ha : DAM X nf (e :: es) r) (hdb : (x == ("__debug__" : Str)) = false := by decide) (he : starEach (e :: es) X.env = (false, eval e X.env) :: starEach es X.env := by rfl) (hpl : (backTo pos (starEach es X.env)).any (·.1) = false := by rfl) :
    DE X nf (.Call (.Name x p) (e :: es) [] pos) (dCall n S dds r) := pe_imp (pe_call F hr hg hm hk hb hd hx ha hdb he hpl) fun σ H Q h => by
  obtain ⟨env, fp, Qd, R, h, k⟩ := h
  refine ⟨env, fp, _, R, h, fun vs H1 ads env1 fp1 r1 R1 c1 ⟨hl, nd, hin, s⟩ => ⟨tb.tab R1.2, ?_⟩⟩
  exact sp_run R1 (r1.app id (hdd H1)) (by rw [List.length_append, List.length_map, hl]) nd hin s fun v H' d env' fp' r' R' c' q => k v H' d env' fp' r' R' (c1.trans c') q
def capD : EV nf → List Nat → List D → Prop
  | _, [], [] => True
  | env, j :: js, d :: ds => env[j]? = some (.fz d) ∧ capD env js ds
  | _, _, _ => False
end
end DL
namespace DL
open PySem PySem.Spec PyProof.Rows L2 RZ
open Sem (wp)
end DL
namespace DL
open PySem PySem.Spec PyProof.Rows L2
end DL
namespace DL
open PySem PySem.Spec PyProof.Rows L2
end DL
namespace DL
open PySem PySem.Spec PyProof.Rows L2
end DL
namespace DL
open PySem L2
end DL
namespace DL
open PySem PySem.SeqAt
open AutoSeq1 (wpAny_loadPart')
open MeetsSeq MeetsSeq2 MeetsSeq3 SeqRoads2
end DL
namespace DL
open PySem L2
end DL
namespace DL
open PySem L2
end DL
namespace DL
open PySem L2
section
variable {X : Cx} {nf : NFs} [Anch nf] {K : PySem.W.Frag} {CX : CXT} {k : Nat} {f C : Addr} {fd : FuncData} {ps : List Str} {sp : Sp} {E : XK} {op : Operator}
def isSq (d : D) : Prop := ∃ xs, d = .lst xs ∨ d = .tup xs
variable {a b : Expr} {pos : Pos} {da db : DT nf} {S : SpD nf} {i : Nat}
def dropD (kds : List (Key × D)) (k : Key) : List (Key × D) := kds.filter fun kv => decide (kv.1 ≠ k)
theorem RelK.drop {H : Hp} {k : Key} : ∀ {kvs : List (Key × V)} {kds : List (Key × D)}, RelK K nf H kvs kds → RelK K nf H (dropK kvs k) (dropD kds k)
  | _, _, .nil => .nil
  | _, _, @RelK.cons _ _ _ kk v vs d ds h r => by
    unfold dropK dropD
    rw [List.filter_cons, List.filter_cons]
    have ih := RelK.drop (k := k) r
    unfold dropK dropD at ih
    by_cases e : kk = k
    · rw [if_neg (by simp [e]), if_neg (by simp [e])]; exact ih
    · rw [if_pos (by simp [e]), if_pos (by simp [e])]; exact .cons h ih
end
end DL
namespace DL
open PySem L2
section
variable {X : Cx} {nf : NFs} [Anch nf] {K : PySem.W.Frag}
variable {a b : Expr} {pos : Pos} {da db : DT nf}
def dNeg (da : DT nf) : DT nf := fun env Q => da env fun x env1 => ∃ i, x = .int i ∧ Q (.int (-i)) env1
theorem de_neg (ha : DE X nf a da) : DE X nf (.UnaryOp .USub a pos) (dNeg da) := pe_imp (pe_un un_neg ha) fun σ H Q ⟨env, fp, Qd, R, h, k⟩ => lift_run R h fun v H1 x env1 fp1 r1 R1 c1 ⟨i, e, q⟩ => by
  subst e
  exact ⟨i, rel_int r1, k _ H1 _ env1 fp1 (.int _) R1 c1 q⟩
def fIxR : D → D → D → Prop := fun x y z => ∃ ns i n, x = .scr ns ∧ y = .int i ∧ atI ns i = some n ∧ z = .int n
theorem atI_map {α β : Type} {f : α → β} {xs : List α} {i : Int} {n : α} (h : atI xs i = some n) : atI (xs.map f) i = some (f n) := bxU (by simp (disch := with_unfolding_all
  unfold atI at h ⊢
  rw [List.length_map]
  cases e : ixN xs.length i with
  | none => rw [e] at h; cases h
  | some j =>
    rw [e] at h
    have h' : xs[j]? = some n := h
    show (xs.map f)[j]? = _
    rw [List.getElem?_map, h']; rfl) only [bxI])
theorem od_ixR : OpD K nf (rIxL K) fIxR := by
  rintro H v w x y z r1 r2 ⟨ns, i, n, rfl, rfl, e, rfl⟩ Q q
  cases r1 with
  | scr h => exact ⟨_, _, i, .int n, rfl, rel_int r2, h.sq, atI_map e, q _ H (.int _) Xt.refl⟩
def dIxR (da db : DT nf) : DT nf := dOp fIxR da db
theorem de_ixR (ha : DE X nf a da) (hb : DE X nf b db) (hs : PlainIx b := by exact fun _ _ => rfl) : DE X nf (.Subscript a b pos) (dIxR da db) := de_ix ix_list od_ixR ha hb hs
def fLenR : List D → D → Prop := fun ds d => ∃ ns, ds = [.scr ns] ∧ d = .int ns.length
theorem cd_lenR : CbD K nf (fun xs H Q => ∃ p ys, xs = [.ref p] ∧ (SqL K H p ys ∨ SqT K H p ys) ∧ Q (.int ys.length) H) fLenR := by
  rintro H vs ds d r ⟨ns, rfl, rfl⟩ Q q
  obtain ⟨v, rfl, h⟩ := rels1x r
  cases h with
  | scr h => exact ⟨_, _, rfl, .inl h.sq, by rw [List.length_map]; exact q _ H (.int _) Xt.refl⟩
def SupE (K : PySem.W.Frag) (prog : Program) (C : Addr) (fl : List Str) : Prop := ∃ fI fd, SupC K prog C fI fd fl
end
end DL
namespace DH
open PySem PySem.Spec PyProof.Rows L2 DL
open PySem.W (Frag findIn nsIn keepIn subIn typeIn hasDictIn clsIn mroIn alongIn specialIn takesIn codeIn kitOne)
theorem and2 {a b : Bool} (h : (a && b) = true) : a = true ∧ b = true := Bool.and_eq_true_iff.mp h
/-- what the text of the def says -/
structure SupT (prog : Program) (q : SupQ) : Prop where
  body : ∃ msg, SupB msg q.fl (defBody q.st)
  kind : (defScope q.st).kind = .function
  co : (defScope q.st).isCoroutine = false
  gen : (defScope q.st).isGenerator = false
  nocell : ∀ x ∈ (defScope q.st).names, x.2 ≠ .cell
  hks : (defScope q.st).names.lookup ("super" : Str) = some .globalImplicit
  hkc : (defScope q.st).names.lookup ("__class__" : Str) = some .free
  loc : ∀ y ∈ ("self" : Str) :: q.fl, (defScope q.st).names.lookup y = some .local
  par : ∃ ar : Arg, ((defArgs q.st).posonlyargs ++ (defArgs q.st).args).head? = some ar ∧ ar.arg = "self"
  bd : ∀ fd : FuncData, fd.params = defArgs q.st → fd.defaults = .none → ∀ us : List Value, us.length = q.fl.length + 1 → bindArgs fd ⟨us, []⟩ = pure ((("self" : Str) :: q.fl).zip us)
  nd : (("self" : Str) :: q.fl).Nodup
  few : q.fl.length ≤ 100
  ne : q.fl ≠ []
  dbg : ∀ y ∈ ("self" : Str) :: q.fl, (y == ("__debug__" : Str)) = false
  htop : (prog.main.scope.names.lookup ("super" : Str)).isSome = false
theorem shB_ok {K : Frag} {C : Addr} (h : shB K C = true) : (∃ nm q N bs bm sn sub ab col dd k0 k1 k2 k3 k5, K.lookup C = some (excClassObj nm q C N bs bm true sn sub ab col dd k0 k1 k2 k3 k5 "ValueError.__new__") ∧ PySem.HandSPX.refsVE bm = true ∧ alongIn K "__init__" bm = some (some (.builtin "ValueError.__init__"))) ∧ typeIn K (.ref C) = some (.type "type") ∧ hasDictIn K C = true := bxU (by simp (disch := with_unfolding_all
  unfold shB at h
  split at h
  · rename_i t dd cd sl ho
    obtain ⟨h0, h⟩ := and2 h
    split at h
    · rename_i C' bm k0 k1 k2 k3 n k5 hm hs
      obtain ⟨h1, h⟩ := and2 h
      obtain ⟨h2, h⟩ := and2 h
      obtain ⟨h3, h⟩ := and2 h
      obtain ⟨h4, h⟩ := and2 h
      obtain ⟨h5, h6⟩ := and2 h
      have e0 : t = "type" := of_decide_eq_true h0
      have e1 : C' = C := of_decide_eq_true h1
      have e2 : n = "ValueError.__new__" := of_decide_eq_true h2
      subst e0 e1 e2
      obtain ⟨nm, bs, mro, ns, qn, hd, sn, sub, ab, col, del⟩ := cd
      have e3 : del = false := by simpa using h3
      have e4 : hd = true := h4
      have e5 : mro = .ref C' :: bm := hm
      subst e3 e4 e5
      have hsl : sl = #[k0, k1, k2, k3, some (.builtin "ValueError.__new__"), k5] := by
        have := congrArg List.toArray hs
        simpa using this
      subst hsl
      refine ⟨⟨nm, qn, ns, bs, bm, sn, sub, ab, col, dd, k0, k1, k2, k3, k5, ho, h5, He.eqO_ok h6⟩, ?_, ?_⟩
      · show (K.lookup C').map (·.cls) = _
        rw [ho]; rfl
      · unfold hasDictIn clsIn; rw [ho]; rfl
    · cases h
  · cases h) only [bxI])
theorem fileB_ok {K : Frag} {prog : Program} {v : Value} (h : fileB K prog.main.file v = true) : ∃ cda ccl cdd vs ccs file tf, v = .ref cda ∧ K.lookup cda = some ⟨ccl, cdd, .fields vs, ccs⟩ ∧ vs[2]? = some (.str file tf) ∧ ((prog.main.file : Str) == file) = true := bxU (by simp (disch := with_unfolding_all
  unfold fileB at h
  split at h
  · rename_i c
    split at h
    · rename_i ccl cdd vs ccs ho
      split at h
      · rename_i z tf hz
        exact ⟨c, ccl, cdd, vs, ccs, z, tf, rfl, ho, hz, h⟩
      · cases h
    · cases h
  · cases h) only [bxI])
theorem cellB_ok {K : Frag} {C : Addr} {c : List (Str × Addr)} (h : cellB K C c = true) : ∃ cc cl cld csl, c.lookup ("__class__" : Str) = some cc ∧ K.lookup cc = some ⟨cl, cld, .cell (some (.ref C)), csl⟩ := bxU (by simp (disch := with_unfolding_all
  unfold cellB at h
  split at h
  · rename_i cc hc
    split at h
    · rename_i cl cld C' csl ho
      have e : C' = C := of_decide_eq_true h
      subst e
      exact ⟨cc, cl, cld, csl, hc, ho⟩
    · cases h
  · cases h) only [bxI])
theorem supC_of {K : Frag} {prog : Program} {q : SupQ} (T : SupT prog q) (e : supV K q = q.val) (h : supB K prog.main.file q = true) : ∃ fd, SupC K prog (He.ga K q.cls) (initA K q.cls) fd q.fl := bxU (by simp (disch := with_unfolding_all
  unfold supB at h
  obtain ⟨h1, h⟩ := and2 h
  obtain ⟨h2, h⟩ := and2 h
  obtain ⟨h3, h⟩ := and2 h
  obtain ⟨h4, h⟩ := and2 h
  obtain ⟨h5, h⟩ := and2 h
  obtain ⟨h6, h⟩ := and2 h
  obtain ⟨h7, h⟩ := and2 h
  obtain ⟨h8, h⟩ := and2 h
  obtain ⟨h9, h⟩ := and2 h
  obtain ⟨h10, h⟩ := and2 h
  obtain ⟨h11, h12⟩ := and2 h
  obtain ⟨c1, c2, c3⟩ := shB_ok h1
  unfold funB at h12
  unfold supV at e
  split at h12
  · rename_i oc od fd osl ho
    rw [ho] at e
    obtain ⟨f1, h12⟩ := and2 h12
    obtain ⟨f2, h12⟩ := and2 h12
    obtain ⟨f3, h12⟩ := and2 h12
    obtain ⟨f4, h12⟩ := and2 h12
    obtain ⟨f5, f6⟩ := and2 h12
    have e' : (fd.params, fd.body, fd.scope) = (defArgs q.st, FuncBody.stmts (defBody q.st), defScope q.st) := Option.some.inj e
    simp only [Prod.mk.injEq] at e'
    obtain ⟨e1, e2, e3⟩ := e'
    have f3' : fd.defaults = .none := by
      unfold noneB at f3
      split at f3
      · assumption
      · cases f3
    obtain ⟨msg, hB⟩ := T.body
    refine ⟨fd, { cls := c1, sa := He.eqO_ok h2, ga := He.eqO_ok h3, gg := He.eqO_ok h4, noF := fun f hf => He.eqO_ok (List.all_eq_true.mp h5 f hf), iC := He.eqO_ok h6, tI := of_decide_eq_true h7, kC := h8, exC := of_decide_eq_true h9, sv := of_decide_eq_true h10, tyC := c2, hdC := c3, op := He.eqO_ok h11, fn := ⟨oc, od, osl, ho⟩, body := ⟨msg, _, e2, hB⟩, glob := of_decide_eq_true f1, blt := of_decide_eq_true f2, code := f4, cdo := fileB_ok f5, cell := cellB_ok f6, kind := (by rw [e3]; exact T.kind), co := (by rw [e3]; exact T.co), gen := (by rw [e3]; exact T.gen), nocell := (by rw [e3]; exact T.nocell), hks := (by rw [e3]; exact T.hks), hkc := (by rw [e3]; exact T.hkc), loc := (by rw [e3]; exact T.loc), par := (by rw [e1]; exact T.par), bd := fun s us hl => BindsTo.of_eq (T.bd fd e1 f3' us hl), nd := T.nd, few := T.few, ne := T.ne, dbg := T.dbg, htop := T.htop }⟩
  · cases h12) only [bxI])
theorem exi_of {K : Frag} {C : Addr} (h : exiB K C = true) : ExI K C := by
  unfold exiB at h
  obtain ⟨h1, h⟩ := and2 h
  obtain ⟨h2, h⟩ := and2 h
  obtain ⟨h3, h⟩ := and2 h
  obtain ⟨h4, h⟩ := and2 h
  obtain ⟨h5, h⟩ := and2 h
  obtain ⟨h6, h7⟩ := and2 h
  exact ⟨h1, He.eqO_ok h2, He.eqO_ok h3, of_decide_eq_true h4, h5, He.eqO_ok h6, by kernel_rfl, by kernel_rfl, of_decide_eq_true h7⟩
theorem isi_of {K : Frag} {C : Addr} (c : Cls K C) (h : isiB K C = true) : IsiC K C := by
  obtain ⟨h1, h2⟩ := and2 h
  exact ⟨c, He.eqO_ok h1, by kernel_rfl, by kernel_rfl, of_decide_eq_true h2⟩
section
variable {q : Ask} {K : Frag}
theorem says_b (c : obsK q K = valA q) : (q.fa.all fun f => f.ok K) = true ∧ (q.fn.all fun d => d.ok K) = true ∧ (q.sup.all fun d => supB K q.file d) = true ∧ q.ex K = true := bxU (by simp (disch := with_unfolding_all
  obtain ⟨h1, h⟩ := and2 (congrArg (fun z : Al => z.1) c)
  obtain ⟨h2, h⟩ := and2 h
  obtain ⟨h3, h4⟩ := and2 h
  exact ⟨h1, h2, h3, (and2 h4).2⟩) only [bxI])
theorem says_c (c : obsK q K = valA q) : (q.fna.all fun d => d.ok K) = true := bxU (by simp (disch := with_unfolding_all
  obtain ⟨h1, h⟩ := and2 (congrArg (fun z : Al => z.1) c)
  obtain ⟨h2, h⟩ := and2 h
  obtain ⟨h3, h4⟩ := and2 h
  exact (and2 h4).1) only [bxI])
theorem says_two (c : obsK q K = valA q) : q.fn.map (fun d => He.fnW K d.at_) = q.fn.map He.DefD.val ∧ q.fna.map (fun d => He5.fnA K (d.at_ K)) = q.fna.map He5.DefA.val := bxU (by simp (disch := with_unfolding_all
  exact List.append_inj (congrArg (fun z : Al => z.2.1) c) (by rw [List.length_map, List.length_map])) only [bxI])
theorem says_fa (c : obsK q K = valA q) (i : Nat) {f : He.Fa} (h : q.fa[i]? = some f := by rfl) : f.ok K = true := List.all_eq_true.mp (says_b c).1 f (List.mem_of_getElem? h)
theorem says_fn (c : obsK q K = valA q) (i : Nat) {d : He.DefD} (h : q.fn[i]? = some d := by rfl) : ∃ fd, FunD K d.name d.qual d.params d.body d.scope (d.dvs K) (d.kws K) (He.fAd K d.at_) fd := bxU (by simp (disch := with_unfolding_all
  have e : q.fn.map (fun d => He.fnW K d.at_) = q.fn.map He.DefD.val := (says_two c).1
  have e2 : (q.fn.map fun d => He.fnW K d.at_)[i]? = (q.fn.map He.DefD.val)[i]? := by rw [e]
  rw [List.getElem?_map, List.getElem?_map, h] at e2
  exact He.DefD.funD (Option.some.inj e2) (List.all_eq_true.mp (says_b c).2.1 d (List.mem_of_getElem? h))) only [bxI])
theorem says_fnA (c : obsK q K = valA q) (i : Nat) {d : He5.DefA} (h : q.fna[i]? = some d := by rfl) : ∃ fd, FunD K d.name d.qual d.params d.body d.scope (d.dvs K) (d.kws K) (d.at_ K) fd := bxU (by simp (disch := with_unfolding_all
  have e2 : (q.fna.map fun d => He5.fnA K (d.at_ K))[i]? = (q.fna.map He5.DefA.val)[i]? := by rw [(says_two c).2]
  rw [List.getElem?_map, List.getElem?_map, h] at e2
  exact He5.DefA.funD (Option.some.inj e2) (List.all_eq_true.mp (says_c c) d (List.mem_of_getElem? h))) only [bxI])
theorem says_sup (c : obsK q K = valA q) {prog : Program} (hf : q.file = prog.main.file) (i : Nat) {d : SupQ} (h : q.sup[i]? = some d) (T : SupT prog d) : ∃ fd, SupC K prog (He.ga K d.cls) (initA K d.cls) fd d.fl := bxU (by simp (disch := with_unfolding_all
  have e : q.sup.map (fun d => supV K d) = q.sup.map SupQ.val := congrArg (fun z : Al => z.2.2) c
  have e2 : (q.sup.map fun d => supV K d)[i]? = (q.sup.map SupQ.val)[i]? := by rw [e]
  rw [List.getElem?_map, List.getElem?_map, h] at e2
  exact supC_of T (Option.some.inj e2) (by rw [← hf]; exact List.all_eq_true.mp (says_b c).2.2.1 d (List.mem_of_getElem? h))) only [bxI])
/-- a def without defaults -/
theorem fun_of {x qual : Str} {st : Stmt} {f : Addr} {fd : FuncData} {kws : List (Str × V)} (F : FunD K x qual (defArgs st) (defBody st) (defScope st) [] kws f fd) : Fun K x qual st f fd := bxU (by simp (disch := with_unfolding_all
  obtain ⟨oc, od, dV, kV, doc, pm, an, cdv, ct, osl, e, lk, hc, hD, _⟩ := F.ex
  rcases hD with ⟨_, hd⟩ | ⟨z, _⟩
  · subst hd
    exact ⟨⟨oc, od, kV, doc, pm, an, cdv, ct, osl, e, lk, hc⟩, F.kp⟩
  · exact absurd rfl z) only [bxI])
end
end DH
namespace DL
open PySem L2
section
variable {nf : NFs} {K : PySem.W.Frag} {De : EndsD nf} {env env' env1 : EV nf} {i j n : Nat} {d x y z : D} {da db dc : DT nf} {ra : DAs nf} {Q : D → EV nf → Prop} {C T : Addr} {ms : List Str} {f g : Str}
/-- what is known of an error class: its instances are looked at, its fields are no attributes of the class -/
def ErrC (K : PySem.W.Frag) (C : Addr) (fl : List Str) : Prop := ExI K C ∧ ∀ f ∈ fl, PySem.W.findIn K (.ref C) f = some none
theorem dIxR_s (h : dOp fIxR da db env Q) : dIxR da db env Q := h
theorem lenR_s {ns : List Int} (h : Q (.int ns.length) env) : CbK fLenR Q [.scr ns] env := ⟨_, ⟨ns, rfl, rfl⟩, h⟩
def IxVK (K : PySem.W.Frag) (i : Nat) (Q : D → EV nf → Prop) : D → EV nf → Prop := fun y env1 => ∃ xs j z, lsAt K env1 i xs ∧ y = .int j ∧ atI xs j = some z ∧ Q z env1
theorem dIxV_s {v : V} {xs : List D} (e : env[i]? = some (.ow v (lstA K nf xs))) (h : db env (IxVK K i Q)) : dIxV K i db env Q := ⟨⟨xs, .inr ⟨v, e⟩⟩, h⟩
theorem ixVK_s {v : V} {xs : List D} {k : Int} (e : env[i]? = some (.ow v (lstA K nf xs))) (ez : atI xs k = some z) (h : Q z env) : IxVK K i Q (.int k) env := ⟨xs, k, z, .inr ⟨v, e⟩, rfl, ez, h⟩
def LPutK2 (K : PySem.W.Frag) (i : Nat) (d : D) (De : EndsD nf) : D → EV nf → Prop := fun y env2 => ∃ v xs k j, env2[i]? = some (.ow v (lstA K nf xs)) ∧ y = .int k ∧ ixN xs.length k = some j ∧ De.nx (env2.set i (.ow v (lstA K nf (xs.set j d))))
def LPutK (K : PySem.W.Frag) (i : Nat) (db : DT nf) (De : EndsD nf) : D → EV nf → Prop := fun d env1 => (∃ v xs, env1[i]? = some (.ow v (lstA K nf xs))) ∧ db env1 (LPutK2 K i d De)
theorem sLPut_s (h : da env (LPutK K i db De)) : sLPut K i db da De env := h
theorem lPutK_s {v : V} {xs : List D} (e : env[i]? = some (.ow v (lstA K nf xs))) (h : db env (LPutK2 K i d De)) : LPutK K i db De d env := ⟨⟨v, xs, e⟩, h⟩
theorem lPutK2_s {v : V} {xs : List D} {k : Int} {j : Nat} (e : env[i]? = some (.ow v (lstA K nf xs))) (ej : ixN xs.length k = some j) (e2 : env.set i (.ow v (lstA K nf (xs.set j d))) = env') (h : De.nx env') : LPutK2 K i d De (.int k) env := ⟨v, xs, k, j, e, rfl, ej, e2 ▸ h⟩
def LAugK (K : PySem.W.Frag) (i : Nat) (k : Int) (v : V) (z : Int) (De : EndsD nf) : D → EV nf → Prop := fun d env1 => ∃ y xs1, d = .int y ∧ env1[i]? = some (.ow v (lstA K nf xs1)) ∧ k.toNat < xs1.length ∧ De.nx (env1.set i (.ow v (lstA K nf (xs1.set k.toNat (.int (z + y))))))
theorem sLAug_s {v : V} {xs : List D} {k z : Int} (e : env[i]? = some (.ow v (lstA K nf xs))) (hk : 0 ≤ k) (hz : xs[k.toNat]? = some (.int z)) (h : da env (LAugK K i k v z De)) : sLAug K i k da De env := ⟨v, xs, z, e, hk, hz, h⟩
theorem lAugK_s {v : V} {xs : List D} {k z y : Int} (e : env[i]? = some (.ow v (lstA K nf xs))) (hl : Nat.blt k.toNat xs.length = true) (e2 : env.set i (.ow v (lstA K nf (xs.set k.toNat (.int (z + y))))) = env') (h : De.nx env') : LAugK K i k v z De (.int y) env := ⟨y, xs, rfl, e, Nat.blt_eq.mp hl, e2 ▸ h⟩
theorem sRetL_s (h : ra env fun xs env1 => xs.length ≤ 1000000 ∧ ∀ p, De.ro (.ref p) (lstA K nf xs) env1) : sRetL K ra De env := h
end
end DL
namespace DL
open PySem L2
end DL
namespace DL
open PySem L2
section
variable {X : Cx} {nf : NFs} [Anch nf] {K : PySem.W.Frag}
variable {a b e l : Expr} {pos : Pos} {da db : DT nf}
def rInT (K : PySem.W.Frag) (neg : Bool) : R2 := fun x y H Q => ∃ d ds, Dp K H x d ∧ Dp K H y (.tuple ds) ∧ SeqAt.shaped d = true ∧ SeqAt.shaped (.tuple ds) = true ∧ Q (.bl (if neg then !ds.any (fun z => PyData.eqv z d) else ds.any (fun z => PyData.eqv z d))) H
theorem op_inT (hu : X.A.units + 65 < cLine) : OpR X (compareOp .In) (rInT X.K false) := by
  intro pins s σ H x y v u Q I rx ry ⟨d, ds, hd, he, sd, se, q⟩
  obtain ⟨as, r1⟩ := Dp.reads I d x v hd rx
  obtain ⟨bs, r2⟩ := Dp.reads I (.tuple ds) y u he ry
  exact SeqAt.in_tuple_reads r2 r1 (SeqAt.canLay_of_shaped se) (SeqAt.canLay_of_shaped sd) (PyProof.Rows.room_in_shaped sd hu) ⟨V.bl _, H, I, rfl, q⟩
theorem op_ninT (hu : X.A.units + 65 < cLine) : OpR X (compareOp .NotIn) (rInT X.K true) := by
  intro pins s σ H x y v u Q I rx ry ⟨d, ds, hd, he, sd, se, q⟩
  obtain ⟨as, r1⟩ := Dp.reads I d x v hd rx
  obtain ⟨bs, r2⟩ := Dp.reads I (.tuple ds) y u he ry
  exact SeqAt.notIn_tuple_reads r2 r1 (SeqAt.canLay_of_shaped se) (SeqAt.canLay_of_shaped sd) (PyProof.Rows.room_in_shaped sd hu) ⟨V.bl _, H, I, rfl, q⟩
def rInL (K : PySem.W.Frag) (neg : Bool) : R2 := fun x y H Q => ∃ d ds, Dp K H x d ∧ Dp K H y (.list ds) ∧ SeqAt.shaped d = true ∧ SeqAt.shaped (.list ds) = true ∧ Q (.bl (if neg then !ds.any (fun z => PyData.eqv z d) else ds.any (fun z => PyData.eqv z d))) H
/-- the answer of x in y -/
def inX (p : PyData) (ps : List PyData) : Bool := ps.any fun z => PyData.eqv z p
def fInX (neg : Bool) : D → D → D → Prop := fun x y z => ∃ p ps, pyOf x = some p ∧ (pyOf y = some (.list ps) ∨ pyOf y = some (.tuple ps)) ∧ SeqAt.shaped p = true ∧ SeqAt.shaped (.list ps) = true ∧ z = .bl (if neg then !inX p ps else inX p ps)
theorem shaped_lt {ps : List PyData} (h : SeqAt.shaped (.list ps) = true) : SeqAt.shaped (.tuple ps) = true := bxU (by simp (disch := with_unfolding_all
  unfold SeqAt.shaped at h ⊢
  simpa [PyData.canLay0, PyData.depth] using h) only [bxI])
theorem od_inX {neg : Bool} : OpD K nf (fun x y H Q => rInL K neg x y H Q ∨ rInT K neg x y H Q) (fInX neg) := by
  rintro H v w x y z r1 r2 ⟨p, ps, e1, e2, s1, s2, rfl⟩ Q q
  rcases e2 with e2 | e2
  · exact .inl ⟨p, ps, dp_of r1 e1, dp_of r2 e2, s1, s2, q _ H (.bl _) Xt.refl⟩
  · exact .inr ⟨p, ps, dp_of r1 e1, dp_of r2 e2, s1, shaped_lt s2, q _ H (.bl _) Xt.refl⟩
theorem op_inX (hu : X.A.units + 65 < cLine) : OpR X (compareOp .In) (fun x y H Q => rInL X.K false x y H Q ∨ rInT X.K false x y H Q) := OpR.or (op_inD hu) (op_inT hu)
theorem op_ninX (hu : X.A.units + 65 < cLine) : OpR X (compareOp .NotIn) (fun x y H Q => rInL X.K true x y H Q ∨ rInT X.K true x y H Q) := OpR.or (op_notInD hu) (op_ninT hu)
def dInX (neg : Bool) (da db : DT nf) : DT nf := dOp (fInX neg) da db
theorem dc_inX (hu : X.A.units + 65 < cLine) (ha : DE X nf a da) (hb : DE X nf b db) (hm : behindInMarks .In b = false := by rfl) : DC X nf (.Compare a [.In] [b] pos) (dBv (dInX false da db)) := dc_cmp (op_inX hu) od_inX ha hb hm
theorem dc_ninX (hu : X.A.units + 65 < cLine) (ha : DE X nf a da) (hb : DE X nf b db) (hm : behindInMarks .NotIn b = false := by rfl) : DC X nf (.Compare a [.NotIn] [b] pos) (dBv (dInX true da db)) := dc_cmp (op_ninX hu) od_inX ha hb hm
/-- y a list of one's own -/
def dInXV (K : PySem.W.Frag) (neg : Bool) (da : DT nf) (i : Nat) : DT nf := fun env Q => da env fun x env1 => ∃ xs p ps, lsAt K env1 i xs ∧ pyOf x = some p ∧ pyOfs xs = some ps ∧ SeqAt.shaped p = true ∧ SeqAt.shaped (.list ps) = true ∧ Q (.bl (if neg then !inX p ps else inX p ps)) env1
theorem lift_inXV {neg : Bool} {i : Nat} (σ : St) (H : Hp) (Q : VK) (h : lift K nf (dInXV K neg da i) σ H Q) : tOp (rInL K neg) (lift K nf da) (tVar i) σ H Q := bxU (by simp (disch := with_unfolding_all
  obtain ⟨env, fp, Qd, R, h, k⟩ := h
  refine lift_run R h fun w H1 x env1 fp1 r1 R1 c1 ⟨xs, p, ps, h1, e1, e2, s1, s2, q⟩ => ?_
  obtain ⟨t, vs, es, sq, rr⟩ := R1.peek h1
  exact ⟨_, es, p, ps, dp_of r1 e1, .lst sq (dps_of rr e2), s1, s2, k _ H1 _ env1 fp1 (.bl _) R1 c1 q⟩) only [bxI])
theorem dc_ninXV {i : Nat} (hu : X.A.units + 65 < cLine) (ha : DE X nf a da) (hl : PE X l (tVar i)) (hm : behindInMarks .NotIn l = false := by rfl) : DC X nf (.Compare a [.NotIn] [l] pos) (dBv (dInXV X.K true da i)) := pt_imp (pt_cmpB (op_notInD hu) ha hl hm) (lift_B2 lift_inXV)
def fCatT : D → D → D → Prop := fun x y z => ∃ xs ys, x = .tup xs ∧ y = .tup ys ∧ xs.length + ys.length ≤ 1000000 ∧ z = .tup (xs ++ ys)
theorem od_catT : OpD K nf (rCatA K) fCatT := by
  rintro H v w x y z r1 r2 ⟨xs, ys, rfl, rfl, hl, rfl⟩ Q q
  cases r1 with
  | @tup a vs _ h1 rr1 =>
    cases r2 with
    | @tup b ws _ h2 rr2 =>
      refine ⟨a, b, vs, ws, rfl, rfl, h1, h2, by rw [rr1.length, rr2.length]; exact sz_ok hl, fun e => ?_, fun _ e => ?_, fun _ _ p hp => ?_⟩
      · subst e
        cases rr1
        exact q _ H (.tup h2 rr2) Xt.refl
      · subst e
        cases rr2
        rw [List.append_nil] at q
        exact q _ H (.tup h1 rr1) Xt.refl
      · have xt : Xt H (upd H p (.tup (vs ++ ws))) := Xt.new hp
        exact q _ _ (.tup (SqT.of upd_same) ((rr1.append rr2).mono xt.stp)) xt
def dCatT (da db : DT nf) : DT nf := dOp fCatT da db
theorem de_catT (ha : DE X nf a da) (hb : DE X nf b db) : DE X nf (.BinOp a .Add b pos) (dCatT da db) := pe_imp (pe_op op_catA ha hb) fun σ H Q h => lift_op od_catT σ H Q h
def fMin : List D → D → Prop := fun ds d => (∃ i j, ds = [.int i, .int j] ∧ d = .int (if j < i then j else i))
def fMax : List D → D → Prop := fun ds d => (∃ i j, ds = [.int i, .int j] ∧ d = .int (if j > i then j else i))
theorem cd_min : CbD K nf (fun xs H Q => ∃ i j, xs = [.int i, .int j] ∧ Q (.int (if j < i then j else i)) H) fMin := by
  rintro H vs ds d r ⟨i, j, rfl, rfl⟩ Q q
  obtain ⟨v, w, rfl, h1, h2⟩ := rels2x r
  exact ⟨i, j, by rw [rel_int h1, rel_int h2], q _ H (.int _) Xt.refl⟩
theorem cd_max : CbD K nf (fun xs H Q => ∃ i j, xs = [.int i, .int j] ∧ Q (.int (if j > i then j else i)) H) fMax := by
  rintro H vs ds d r ⟨i, j, rfl, rfl⟩ Q q
  obtain ⟨v, w, rfl, h1, h2⟩ := rels2x r
  exact ⟨i, j, by rw [rel_int h1, rel_int h2], q _ H (.int _) Xt.refl⟩
end
end DL
namespace DL
open PySem L2
section
open PySem.W PySem.Calls PyProof.Rows
variable {prog : Program} {w : World} {A : Around} {E : Value → Shared → Prop} {s : Shared} {K : Frag} {x C L f g : Addr} {h₀ : Heap} {m : Str → Option Value} {ox : Obj} {od : Option Obj}
/-- a built-in type without the operator on the left, an own class that reflects on the right -/
theorem binR_bare {op : Operator} {a x : Addr} {T : String} {Q : Value → Shared → Prop} (F : Fr h₀ L s.heap m) (X₀ : K.In h₀) (I : InstAt s.heap x ox C od) (hT : s.TypeIs (.ref a) T) (hfl : (fillsNumberSlot (.type T) op.info.2 : Sem Bool) = pure false) (hc : selfFirst K C = true)
    (hs : findIn K (.ref C) (PySem.dunder op.info.2) = some (some (.ref f))) (hr : findIn K (.ref C) (dunderR op.info.2) = some (some (.ref g))) (hf : isFn K (.ref g) = true)
    (h : wpAny (model prog w) A (call (.ref g) [.ref x, .ref a]) (PySem.W.CmpBack Q) E s) : wpAny (model prog w) A (binaryOp op (.ref a) (.ref x)) Q E s := bxU (by simp (disch := with_unfolding_all
  have X := X₀.keeps F.keep
  obtain ⟨cd, rest, hcd, hm⟩ := ksp_first hc
  have one := ksp_try X I hr hf h
  have L1 : Looks (model prog w) s.heap (typeOf (.ref x)) (.ref C) := I.type
  have L3 : Looks (model prog w) s.heap (fillsNumberSlot (.ref C) op.info.2) true := fills_K X hcd hm hs
  have hne : (Value.type T == Value.ref C) = false := Bool.eq_false_iff.mpr fun q => by cases beq_iff_eq.mp q
  unfold binaryOp
  refine wpAny_holding (wpAny_bind ?_)
  show wpAny _ _ (binaryOp1 op.info.2 _ _) _ _ _
  unfold binaryOp1
  refine wpAny_bind (wpAny_typeOf hT (wpAny_bind (L1.here (wpAny_bind (wpAny_of_eq hfl ?_)))))
  simp only [hne, Bool.false_eq_true, if_false]
  refine wpAny_bind (L3.here ?_)
  simp only [Bool.false_and, Bool.false_eq_true, if_false, pure_bind, Bool.not_false, Bool.and_self, if_true]
  refine wpAny_bind (wpAny_mono one (fun r s' hr' => ?_) fun _ _ e => e)
  obtain ⟨v, rfl, hq⟩ := hr'
  exact wpAny_bind (wpAny_rule (wpAny_pure (wpAny_pure hq)))) only [bxI])
end
/-- an own class that has the operator and its reflected one; lists and tuples have none -/
structure OpB (K : PySem.W.Frag) (C : Addr) (nm : String) (f g : Addr) : Prop where
  sf : PySem.W.selfFirst K C = true
  hs : PySem.W.findIn K (.ref C) (PySem.dunder nm) = some (some (.ref f))
  hr : PySem.W.findIn K (.ref C) (dunderR nm) = some (some (.ref g))
  hf : PySem.W.isFn K (.ref g) = true
def Bare (nm : String) : Prop := (fillsNumberSlot (.type "list") nm : Sem Bool) = pure false ∧ (fillsNumberSlot (.type "tuple") nm : Sem Bool) = pure false
theorem bare_or : Bare "or" := ⟨by kernel_rfl, by kernel_rfl⟩
theorem bare_and : Bare "and" := ⟨by kernel_rfl, by kernel_rfl⟩
theorem bare_sub : Bare "sub" := ⟨by kernel_rfl, by kernel_rfl⟩
theorem bare_xor : Bare "xor" := ⟨by kernel_rfl, by kernel_rfl⟩
end DL
namespace DS
open PySem PySem.Spec PyProof.Rows L2
def orb : Nat → Nat
  | 0 => 0
  | n + 1 => 5 * orb n + 1
theorem five_orb : ∀ n, 5 ^ n = 4 * orb n + 1
  | 0 => rfl
  | n + 1 => by
    rw [Nat.pow_succ, five_orb n]
    show (4 * orb n + 1) * 5 = 4 * (5 * orb n + 1) + 1
    omega
theorem orb_add (a : Nat) : ∀ b, orb (b + a) = orb a * 5 ^ b + orb b
  | 0 => by rw [Nat.zero_add, Nat.pow_zero, Nat.mul_one]; rfl
  | b + 1 => by
    have e : b + 1 + a = (b + a) + 1 := by omega
    rw [e]
    show 5 * orb (b + a) + 1 = orb a * 5 ^ (b + 1) + (5 * orb b + 1)
    rw [orb_add a b, Nat.pow_succ, ← Nat.mul_assoc]
    omega
theorem odd_mul (x y : Nat) : (2 * x + 1) * (2 * y + 1) = 2 * (2 * x * y + x + y) + 1 := bxU (by simp (disch := with_unfolding_all
  rw [Nat.add_mul, Nat.mul_add, Nat.mul_add, Nat.mul_add, Nat.mul_one, Nat.one_mul]
  have e : 2 * x * (2 * y) = 2 * (2 * x * y) := by rw [← Nat.mul_assoc, Nat.mul_comm (2 * x) 2, Nat.mul_assoc]
  rw [e]
  omega) only [bxI])
theorem orb_pow : ∀ k, ∃ q, orb (2 ^ k) = 2 ^ k * (2 * q + 1)
  | 0 => ⟨0, rfl⟩
  | k + 1 => by
    obtain ⟨q, e⟩ := orb_pow k
    refine ⟨2 * q * orb (2 ^ k) + q + orb (2 ^ k), ?_⟩
    have two : (2 : Nat) ^ (k + 1) = 2 ^ k + 2 ^ k := by rw [Nat.pow_succ]; omega
    rw [← odd_mul, two, orb_add, five_orb]
    have z : orb (2 ^ k) * (4 * orb (2 ^ k) + 1) + orb (2 ^ k) = orb (2 ^ k) * (2 * (2 * orb (2 ^ k) + 1)) := by
      rw [← Nat.mul_succ]
      congr 1
      omega
    rw [z]
    generalize orb (2 ^ k) = O at e ⊢
    generalize 2 ^ k = M at e ⊢
    rw [← Nat.two_mul M, Nat.mul_assoc 2, ← Nat.mul_assoc M, ← e]
    exact Nat.mul_left_comm ..
theorem orb_meets : ∀ k j, j < 2 ^ k → ∃ n, n < 2 ^ k ∧ orb n % 2 ^ k = j
  | 0, j, h => ⟨0, by decide, by
    have : j = 0 := by rw [Nat.pow_zero] at h; omega
    rw [this]; rfl⟩
  | k + 1, j, h => by
    obtain ⟨M, hM⟩ : ∃ M, 2 ^ k = M := ⟨_, rfl⟩
    have pos : 0 < M := by rw [← hM]; exact Nat.pow_pos (by decide)
    have two : (2 : Nat) ^ (k + 1) = M + M := by rw [Nat.pow_succ, hM]; omega
    obtain ⟨n, nl, ne⟩ := orb_meets k (j % M) (by rw [hM]; exact Nat.mod_lt _ pos)
    obtain ⟨q, oq⟩ := orb_pow k
    rw [hM] at nl ne oq
    rw [two] at h ⊢
    have far : orb (n + M) = (M + M) * (2 * q * (2 * orb n) + q + 2 * orb n) + (orb n + M) := by
      rw [orb_add, oq, five_orb, Nat.mul_assoc]
      have w : 4 * orb n + 1 = 2 * (2 * orb n) + 1 := by omega
      rw [w, odd_mul, Nat.mul_add, Nat.mul_one, ← Nat.two_mul M, ← Nat.mul_assoc, Nat.mul_comm M 2]
      omega
    have du := Nat.div_add_mod (orb n) M
    have dj := Nat.div_add_mod j M
    rw [ne] at du
    have jq : j / M < 2 := Nat.div_lt_of_lt_mul (by omega)
    have half := Nat.div_add_mod (orb n / M) 2
    have hl : orb n / M % 2 < 2 := Nat.mod_lt _ (by decide)
    obtain ⟨c, hc⟩ : ∃ c, orb n / M / 2 = c := ⟨_, rfl⟩
    rw [hc] at half
    have eu : orb n = (M + M) * c + (M * (orb n / M % 2) + j % M) := by
      rw [← Nat.two_mul, Nat.mul_comm 2 M, Nat.mul_assoc]
      have := congrArg (M * ·) half
      try dsimp only at this
      rw [Nat.mul_add] at this
      omega
    have jl : j % M < M := Nat.mod_lt _ pos
    generalize orb n / M % 2 = b at eu hl
    rcases (show j / M = b ∨ (j / M = 1 ∧ b = 0) ∨ (j / M = 0 ∧ b = 1) by generalize j / M = v at jq; omega) with e | ⟨e, e'⟩ | ⟨e, e'⟩
    · refine ⟨n, by omega, ?_⟩
      rw [eu, Nat.mul_add_mod, ← e, dj]
      exact Nat.mod_eq_of_lt h
    · refine ⟨n + M, by omega, ?_⟩
      rw [e'] at eu
      rw [e] at dj
      rw [far, Nat.mul_add_mod, eu, Nat.add_assoc, Nat.mul_add_mod]
      have : M * 0 + j % M + M = j := by omega
      rw [this]
      exact Nat.mod_eq_of_lt h
    · refine ⟨n + M, by omega, ?_⟩
      rw [e'] at eu
      rw [e] at dj
      rw [far, Nat.mul_add_mod, eu, Nat.add_assoc, Nat.mul_add_mod]
      have : M * 1 + j % M + M = (M + M) * 1 + j := by omega
      rw [this, Nat.mul_add_mod]
      exact Nat.mod_eq_of_lt h
/-- a table of 2 ^ (k + 1) slots -/
def MaskG (m : Nat) : Prop := ∃ k, m + 1 = 2 ^ (k + 1)
theorem MaskG.odd {m : Nat} (h : MaskG m) : m % 2 = 1 := bxU (by simp (disch := with_unfolding_all
  obtain ⟨k, e⟩ := h
  rw [Nat.pow_succ] at e
  omega) only [bxI])
theorem lcg_orb (m : Nat) : ∀ n, lcgN m n = orb n % (m + 1)
  | 0 => rfl
  | n + 1 => by
    show (lcgN m n * 5 + 1) % (m + 1) = (5 * orb n + 1) % (m + 1)
    rw [lcg_orb m n, Nat.mul_comm 5, Nat.add_mod, Nat.mod_mul_mod, ← Nat.add_mod]
theorem lcg_turn {m : Nat} (hm : MaskG m) (n : Nat) : lcgN m (n + (m + 1)) = lcgN m n := bxU (by simp (disch := with_unfolding_all
  obtain ⟨k, e⟩ := hm
  obtain ⟨q, z⟩ := orb_pow (k + 1)
  rw [lcg_orb, lcg_orb, orb_add, e, z, Nat.mul_assoc, Nat.mul_add_mod]) only [bxI])
theorem lcg_meets {m : Nat} (hm : MaskG m) {i j : Nat} (hi : i ≤ m) (hj : j ≤ m) : ∃ n, n ≤ m ∧ lcgI m i n = j := bxU (by simp (disch := with_unfolding_all
  have one : ∀ {x}, x ≤ m → ∃ n, n ≤ m ∧ lcgN m n = x := fun {x} hx => by
    obtain ⟨k, e⟩ := hm
    obtain ⟨n, l, r⟩ := orb_meets (k + 1) x (by omega)
    rw [← e] at l r
    exact ⟨n, by omega, by rw [lcg_orb]; exact r⟩
  obtain ⟨a, al, ea⟩ := one hi
  obtain ⟨b, bl, eb⟩ := one hj
  by_cases c : a ≤ b
  · refine ⟨b - a, by omega, ?_⟩
    rw [← ea, lcgN_add, Nat.add_sub_cancel' c, eb]
  · refine ⟨m + 1 - (a - b), by omega, ?_⟩
    rw [← ea, lcgN_add, show a + (m + 1 - (a - b)) = b + (m + 1) by omega, lcg_turn hm, eb]) only [bxI])
theorem meets {m : Nat} (hm : MaskG m) (h : Int) {j : Nat} (hj : j ≤ m) : ∃ r, r ≤ m + 12 ∧ runI m (SetTable.bits h) r = j := bxU (by simp (disch := with_unfolding_all
  obtain ⟨n, l, e⟩ := lcg_meets hm (runI_le m (SetTable.bits h) 12) hj
  refine ⟨12 + n, by omega, ?_⟩
  rw [runI_tail (bits_lt h), e]) only [bxI])
theorem slot_in (m : Nat) (h : Int) (n : Nat) : way m h n ≤ m := bxU (by simp (disch := with_unfolding_all
  have e := runEnd_bd (Nat.le_of_lt_succ (show SetTable.bits h % (m + 1) < m + 1 from Nat.mod_lt _ (Nat.succ_pos m)))
  have z := nth_in (m := m) n (runAt m (SetTable.bits h % (m + 1)) (SetTable.bits h)) (by unfold runAt; dsimp only; omega)
  exact Nat.le_trans (Nat.le_add_right _ _) z) only [bxI])
/-- the way of h comes to j over taken slots alone -/
def Comes (m : Nat) (taken : Nat → Prop) (h : Int) (j : Nat) : Prop := ∃ n, way m h n = j ∧ ∀ c, c < n → taken (way m h c)
theorem Comes.wider {m : Nat} {p q : Nat → Prop} (f : ∀ x, p x → q x) {h : Int} {j : Nat} : Comes m p h j → Comes m q h j
  | ⟨n, e, b⟩ => ⟨n, e, fun c l => f _ (b c l)⟩
structure TabG (t : SetTable) (hs : List Int) : Prop where
  mok : MaskG t.mask
  ris : Ris t.place.toList
  dm : t.dummies = #[]
  sz : t.place.size = hs.length
  comes : ∀ (i j : Nat) (h : Int), t.place.toList[i]? = some j → hs[i]? = some h → Comes t.mask (· ∈ t.place.toList) h j
section
variable {t : SetTable} {hs : List Int}
theorem TabG.first (T : TabG t hs) (room : hs.length ≤ t.mask) (h : Int) : ∃ n, n < 10 * SetTable.turns t.mask ∧ way t.mask h n ∉ t.place.toList ∧ ∀ c, c < n → way t.mask h c ∈ t.place.toList := bxU (by simp (disch := with_unfolding_all
  have z := T.sz
  obtain ⟨j, lt, out⟩ := st_missing t.place.toList (t.mask + 1) (by rw [Array.length_toList]; omega)
  obtain ⟨r, rl, re⟩ := meets T.mok h (Nat.le_of_lt_succ lt)
  obtain ⟨n, nl, ne⟩ := run_nth t.mask (SetTable.bits h) r
  have e : way t.mask h n = j := (congrArg SetTable.Probe.j ne).trans re
  obtain ⟨q, ql, qo, qb⟩ := st_least (p := fun c => way t.mask h c ∉ t.place.toList) n (by show way t.mask h n ∉ _; rw [show way t.mask h n = j from e]; exact out)
  exact ⟨q, by unfold SetTable.turns; omega, qo, fun c l => Classical.byContradiction (qb c l)⟩) only [bxI])
theorem TabG.before (T : TabG t hs) {h : Int} {n i j : Nat} (out : way t.mask h n ∉ t.place.toList) (eh : hs[i]? = some h) (ej : t.place.toList[i]? = some j) : ∃ c, c < n ∧ way t.mask h c = j := bxU (by simp (disch := with_unfolding_all
  obtain ⟨c, ec, b⟩ := T.comes i j h ej eh
  refine ⟨c, Nat.lt_of_not_le fun le => ?_, ec⟩
  rcases Nat.eq_or_lt_of_le le with z | z
  · rw [z, ec] at out
    exact out (List.mem_of_getElem? ej)
  · exact out (b n z)) only [bxI])
theorem TabG.put (T : TabG t hs) {h : Int} {j : Nat} (out : j ∉ t.place.toList) (cm : Comes t.mask (· ∈ t.place.toList) h j) :
    (t.put j).2 = SetTable.below t.place j ∧ SetTable.below t.place j ≤ hs.length ∧ TabG (t.put j).1 (hs.take (SetTable.below t.place j) ++ h :: hs.drop (SetTable.below t.place j)) ∧
    (t.put j).1.mask = t.mask ∧ (t.put j).1.led = t.led ∧ (t.put j).1.fill = hs.length + 1 := bxU (by simp (disch := with_unfolding_all
  obtain ⟨c1, _, _⟩ := below_cut T.ris j
  have cut : SetTable.below t.place j ≤ t.place.toList.length := by rw [Array.length_toList]; exact c1
  have cut2 : SetTable.below t.place j ≤ hs.length := by rw [← T.sz]; exact c1
  have pl := put_place t j
  have n1 : (t.put j).1.place.size = hs.length + 1 := by
    have z := congrArg List.length pl
    rw [len_ins _ cut, Array.length_toList, Array.length_toList, T.sz] at z
    exact z
  refine ⟨rfl, cut2, ⟨T.mok, ris_insert T.ris fun e => out (List.mem_of_getElem? (by rw [Array.getElem?_toList]; exact e)), put_dm T.dm j, by rw [n1, len_ins _ cut2], fun i j' h' ej eh => ?_⟩, rfl, rfl, ?_⟩
  · refine Comes.wider (p := (· ∈ t.place.toList)) (q := (· ∈ (t.put j).1.place.toList)) (fun x m => by show x ∈ (t.put j).1.place.toList; rw [pl]; exact mem_ins.mpr (.inr m)) ?_
    rw [pl, tins_get _ cut] at ej
    rw [tins_get _ cut2] at eh
    by_cases l : i < SetTable.below t.place j
    · rw [if_pos l] at ej eh
      exact T.comes _ _ _ ej eh
    · by_cases q : i = SetTable.below t.place j
      · rw [if_neg l, if_pos q] at ej eh
        cases ej
        cases eh
        exact cm
      · rw [if_neg l, if_neg q] at ej eh
        exact T.comes _ _ _ ej eh
  · show (t.put j).1.place.size + (t.put j).1.dummies.size = _
    rw [n1, put_dm T.dm j] <;> rfl) only [bxI])
end
section
variable {m : Nat}
theorem freeG (hm : MaskG m) (ow : Array (Option Nat)) (h : Int) {j : Nat} (hj : j ≤ m) (hf : oAt ow j = none) :
    ∃ n, SetTable.layClean.free m ow (SetTable.turns m) (SetTable.bits h % (m + 1)) (SetTable.bits h) = some (way m h n) ∧ oAt ow (way m h n) = none ∧ ∀ c, c < n → oAt ow (way m h c) ≠ none := bxU (by simp (disch := with_unfolding_all
  obtain ⟨r, rl, re⟩ := meets hm h hj
  have e : way m h (off m (SetTable.bits h % (m + 1)) (SetTable.bits h) r) = j := by
    have z := nth_off m r (SetTable.bits h % (m + 1)) (SetTable.bits h)
    rw [itL_run] at z
    exact (congrArg SetTable.Probe.j z).trans re
  obtain ⟨q, ql, qe, qb⟩ := st_least (p := fun c => oAt ow (way m h c) = none) _ (by show oAt ow _ = none; rw [show way m h _ = j from e]; exact hf)
  refine ⟨q, free_spec m ow _ r _ _ q (by unfold SetTable.turns; omega) ql (fun c l => ?_) (Option.isNone_iff_eq_none.mpr qe), qe, qb⟩
  have z := qb c l
  revert z
  generalize oAt ow (way m h c) = o
  cases o with
  | none => exact fun z => absurd rfl z
  | some _ => exact fun _ => rfl) only [bxI])
theorem layOne (hm : MaskG m) {done : List Int} {ow : Array (Option Nat)} (W : Own m done ow) (room : done.length ≤ m) (h : Int) :
    ∃ j, SetTable.layClean.free m ow (SetTable.turns m) (SetTable.bits h % (m + 1)) (SetTable.bits h) = some j ∧ Own m (done ++ [h]) (ow.setIfInBounds j (some done.length)) := bxU (by simp (disch := with_unfolding_all
  obtain ⟨ps, pl, pin⟩ := W.ps
  obtain ⟨f, fl, fo⟩ := st_missing ps (m + 1) (by omega)
  have fl := Nat.le_of_lt_succ fl
  obtain ⟨n, nf, ne, nb⟩ := freeG hm ow h fl (Classical.byContradiction fun z => fo (pin f fl z))
  refine ⟨_, nf, ?_⟩
  have jl := slot_in m h n
  generalize ej : way m h n = j at ne jl ⊢
  have self : oAt (ow.setIfInBounds j (some done.length)) j = some done.length := oAt_set_self _ (by rw [W.sz]; exact Nat.lt_succ_of_le jl)
  have keep : ∀ x, oAt ow x ≠ none → oAt (ow.setIfInBounds j (some done.length)) x = oAt ow x := fun x hx => oAt_set_ne _ fun e => hx (by rw [e, ne])
  have still : ∀ x, oAt ow x ≠ none → oAt (ow.setIfInBounds j (some done.length)) x ≠ none := fun x hx => by rw [keep x hx]; exact hx
  have len : (done ++ [h]).length = done.length + 1 := by rw [List.length_append]; rfl
  constructor
  · rw [Array.size_setIfInBounds, W.sz]
  · intro x k xl e
    by_cases c : x = j
    · rw [c, self] at e
      cases e
      exact ⟨h, n, by simp, ej.trans c.symm, fun c' l => still _ (nb c' l)⟩
    · rw [oAt_set_ne _ c] at e
      obtain ⟨g, N, g1, g2, g3⟩ := W.at_ x k xl e
      have kl := (List.getElem?_eq_some_iff.mp g1).1
      exact ⟨g, N, (List.getElem?_append_left kl).trans g1, g2, fun c' l => still _ (g3 c' l)⟩
  · intro k kl
    rw [len] at kl
    rcases Nat.lt_or_eq_of_le (Nat.le_of_lt_succ kl) with c | c
    · obtain ⟨x, xl, e⟩ := W.all k c
      exact ⟨x, xl, (keep x (by rw [e]; exact nofun)).trans e⟩
    · exact ⟨j, jl, by rw [c]; exact self⟩
  · refine ⟨j :: ps, by rw [len, List.length_cons, pl], fun x xl e => ?_⟩
    by_cases c : x = j
    · rw [c]; exact .head _
    · rw [oAt_set_ne _ c] at e
      exact .tail _ (pin x xl e)) only [bxI])
theorem layFold (hm : MaskG m) : ∀ (rest done : List Int) (ow : Array (Option Nat)), Own m done ow → done.length + rest.length ≤ m →
    ∃ ow', rest.foldl (stepF m) (some (ow, done.length)) = some (ow', done.length + rest.length) ∧ Own m (done ++ rest) ow'
  | [], done, ow, W, _ => ⟨ow, rfl, by rw [List.append_nil]; exact W⟩
  | h :: rest, done, ow, W, room => by
    rw [List.length_cons] at room ⊢
    obtain ⟨j, e, W1⟩ := layOne hm W (by omega) h
    have len : (done ++ [h]).length = done.length + 1 := by rw [List.length_append]; rfl
    obtain ⟨ow', f, W2⟩ := layFold hm rest _ _ W1 (by omega)
    rw [len] at f
    rw [List.append_assoc] at W2
    refine ⟨ow', ?_, W2⟩
    rw [List.foldl_cons, stepF_some e, f]
    congr 2
    omega
theorem layAll (hm : MaskG m) {hs : Array Int} (room : hs.size ≤ m) : ∃ ow, SetTable.layClean m hs = some ow ∧ Own m hs.toList ow := bxU (by simp (disch := with_unfolding_all
  obtain ⟨ow, f, W⟩ := layFold hm hs.toList [] _ (Own.init m) (by rw [Array.length_toList]; show 0 + hs.size ≤ m; omega)
  refine ⟨ow, ?_, W⟩
  rw [layClean_eq]
  exact congrArg (Option.map (·.1)) f) only [bxI])
theorem relaidG (t : SetTable) {hs : Array Int} {wanted : Nat} (hw : SetTable.sizeAbove wanted - 1 = m) (hm : MaskG m) (room : hs.size ≤ m) :
    ∃ t' order, t.relaid hs wanted = some (t', order) ∧ order.toList.Perm (List.range hs.size) ∧ TabG t' (order.toList.map fun i => hs.getD i 0) ∧ t'.mask = m ∧ t'.led = t.led := bxU (by simp (disch := with_unfolding_all
  obtain ⟨ow, e, W⟩ := layAll hm room
  obtain ⟨r1, r2⟩ := ris_live (fun j => ow.getD j none) (List.range (m + 1)) (by
    unfold Ris
    first | exact List.pairwise_lt_range | exact List.pairwise_lt_range _)
  have r1 : Ris ((liveOf m ow).map (·.1)) := r1
  have nodup : ((liveOf m ow).map (·.1)).Nodup := List.Pairwise.imp (fun l => Nat.ne_of_lt l) r1
  have all : ∀ k, k < hs.size → k ∈ (liveOf m ow).map (·.2) := fun k hk => by
    obtain ⟨j, b1, b2⟩ := W.all k (by rw [Array.length_toList]; exact hk)
    exact List.mem_map_of_mem (f := fun x : Nat × Nat => x.2) ((mem_live W.sz).mpr ⟨b1, b2⟩)
  have len : (liveOf m ow).length = hs.size := by
    obtain ⟨ps, p1, p2⟩ := W.ps
    have a := nat_nodup_len ((liveOf m ow).map (·.1)) ps nodup fun x hx => by
      obtain ⟨⟨y, k⟩, hq, rfl⟩ := List.mem_map.mp hx
      obtain ⟨b1, b2⟩ := (mem_live W.sz).mp hq
      exact p2 y b1 (by rw [b2]; exact nofun)
    have b := nat_nodup_len (List.range hs.size) _ List.nodup_range fun k hk => all k (List.mem_range.mp hk)
    rw [List.length_map] at a b
    rw [List.length_range] at b
    have z : hs.toList.length = hs.size := rfl
    omega
  refine ⟨tabOf t m ow, ((liveOf m ow).map (·.2)).toArray, ?_, perm_range _ _ (by show ((liveOf m ow).map (·.2)).length = _; rw [List.length_map, len]) all, ⟨hm, r1, rfl, ?_, fun i j h ej eh => ?_⟩, rfl, rfl⟩
  · rw [relaid_eq, hw, e]
    rfl
  · show (((liveOf m ow).map (·.1)).toArray).size = (((liveOf m ow).map (·.2)).map _).length
    simp
  · have ej' : ((liveOf m ow).map (·.1))[i]? = some j := ej
    have eh' : (((liveOf m ow).map (·.2)).map fun i => hs.getD i 0)[i]? = some h := eh
    rw [List.getElem?_map] at ej'
    rw [List.getElem?_map, List.getElem?_map] at eh'
    obtain ⟨⟨y, k⟩, hq, rfl⟩ := Option.map_eq_some_iff.mp ej'
    rw [hq] at eh'
    have eh2 : hs.getD k 0 = h := Option.some.inj eh'
    obtain ⟨b1, b2⟩ := (mem_live W.sz).mp (List.mem_of_getElem? hq)
    obtain ⟨g, N, a1, a2, a3⟩ := W.at_ _ k b1 b2
    have eg : g = h := by
      rw [← eh2, Array.getD_eq_getD_getElem?, ← Array.getElem?_toList, a1]
      rfl
    rw [← eg]
    refine ⟨N, a2, fun c l => ?_⟩
    obtain ⟨o, eo⟩ := Option.ne_none_iff_exists'.mp (a3 c l)
    exact List.mem_map_of_mem (f := fun x : Nat × Nat => x.1) ((mem_live W.sz).mpr ⟨slot_in m g c, eo⟩)) only [bxI])
end
theorem grow_5 : SetTable.sizeAbove (SetTable.grown 5) - 1 = 31 := by decide +kernel
theorem grow_19 : SetTable.sizeAbove (SetTable.grown 19) - 1 = 127 := by decide +kernel
theorem grow_77 : SetTable.sizeAbove (SetTable.grown 77) - 1 = 511 := by decide +kernel
theorem grow_307 : SetTable.sizeAbove (SetTable.grown 307) - 1 = 2047 := by decide +kernel
end DS
namespace DS
open PySem PySem.Spec PyProof.Rows L2
/-- things on the heap that a set holds: what they are (by a plain name κ), their hash, their == -/
structure Elt (P : Program) (w : World) (κ : Type) [DecidableEq κ] where
  is : Heap → κ → Addr → Prop
  hash : κ → Int
  eq : ∀ {A : Around} {E : Value → Shared → Prop} {s : Shared} {k l : κ} {x y : Addr} {Q : Bool → Shared → Prop}, A.units < cLine → is s.heap k x → is s.heap l y → Q (decide (k = l)) s → wpAny (model P w) A (eqBool (.ref x) (.ref y)) Q E s
  seen : ∀ {A : Around} {E : Value → Shared → Prop} {s : Shared} {k : κ} {x : Addr} {ys : List Value} {Q : Bool → Shared → Prop}, is s.heap k x → (∀ y ∈ ys, ∃ l c, y = Value.ref c ∧ is s.heap l c) → Q false s → wpAny (model P w) A (searchCouldBeSeen (.ref x) ys) Q E s
/-- the c-th state of the way of a hash -/
abbrev prb (m : Nat) (h : Int) (c : Nat) : SetTable.Probe := nth m (runAt m (SetTable.bits h % (m + 1)) (SetTable.bits h)) c
theorem dummy_nth (m : Nat) : ∀ (n : Nat) (p : SetTable.Probe), p.dummy = none → (nth m p n).dummy = none
  | 0, _, h => h
  | n + 1, p, h => dummy_nth m n (adv m p) (by unfold adv; split <;> exact h)
theorem prb_add (m : Nat) (h : Int) (c q : Nat) : nth m (prb m h c) q = prb m h (c + q) := (nth_add m c _ q).symm
section
variable {P : Program} {w : World} {κ : Type} [DecidableEq κ] (T : Elt P w κ)
def rws (L : List (Addr × κ)) : List (Int × Value) := L.map fun p => (T.hash p.2, Value.ref p.1)
/-- the set at a holds the things L, in the table t -/
structure SetG (h : Heap) (a : Addr) (L : List (Addr × κ)) (es : Array (Int × Value)) (ep : Nat) (t : SetTable) : Prop where
  ob : ∃ o, h.get? a = some o ∧ o.ExactSet ∧ o.data = .set es ep t
  rows : es.toList = rws T L
  tab : TabG t (L.map fun p => T.hash p.2)
  nd : (L.map (·.2)).Nodup
  elt : ∀ p ∈ L, T.is h p.2 p.1
  led : w.params.followText "set-order" = true ∨ t.led = true
  room : L.length * 5 < t.mask * 3
  few : L.length < 1000
  low : t.mask = 7 ∨ t.mask = 31 ∨ t.mask = 127 ∨ t.mask = 511 ∨ t.mask = 2047
end
section
variable {P : Program} {w : World} {κ : Type} [DecidableEq κ] {T : Elt P w κ} {A : Around} {E : Value → Shared → Prop} {s : Shared} {a : Addr} {L : List (Addr × κ)} {es : Array (Int × Value)} {ep : Nat} {t : SetTable}
theorem SetG.size {h : Heap} (R : SetG T h a L es ep t) : es.size = L.length := bxU (by simp (disch := with_unfolding_all
  rw [← Array.length_toList, R.rows]
  simp [rws]) only [bxI])
theorem SetG.fits {h : Heap} (R : SetG T h a L es ep t) : t.fits es.size = true := bxU (by simp (disch := with_unfolding_all
  have z1 := R.tab.sz
  have z2 := R.room
  rw [List.length_map] at z1
  unfold SetTable.fits SetTable.fill
  rw [R.tab.dm, R.size, Bool.and_eq_true]
  refine ⟨beq_iff_eq.mpr z1, decide_eq_true ?_⟩
  show t.place.size + 0 ≤ t.mask
  omega) only [bxI])
theorem SetG.at {h : Heap} (R : SetG T h a L es ep t) {i : Nat} {p : Addr × κ} (e : L[i]? = some p) : es[i]? = some (T.hash p.2, Value.ref p.1) := bxU (by simp (disch := with_unfolding_all
  have z : es.toList[i]? = (rws T L)[i]? := by rw [R.rows]
  rw [Array.getElem?_toList] at z
  rw [z]
  simp [rws, e]) only [bxI])
theorem SetG.gw {h : Heap} (R : SetG T h a L es ep t) : ¬ t.gaveWay = true := bxU (by simp (disch := with_unfolding_all
  unfold SetTable.gaveWay
  rw [R.tab.mok.odd]
  decide) only [bxI])
/-- the search, from the c-th state on -/
theorem findFrom (R : SetG T s.heap a L es ep t) {x : Addr} {k : κ} (hx : T.is s.heap k x) (hu : A.units < cLine) {n : Nat} (hn : n < 10 * SetTable.turns t.mask) (free : way t.mask (T.hash k) n ∉ t.place.toList) (full : ∀ c, c < n → way t.mask (T.hash k) c ∈ t.place.toList) {Q : SetFound → Shared → Prop}
    (yes : k ∈ L.map (·.2) → Q (.there none) s) (no : k ∉ L.map (·.2) → Q (.free (way t.mask (T.hash k) n) false) s) :
    ∀ (fuel c : Nat) (st : Option SetTable.Probe), st.getD (t.probeStart (T.hash k)) = prb t.mask (T.hash k) c → c ≤ n → n - c < fuel →
      (∀ (i : Nat) p, L[i]? = some p → p.2 = k → ∃ c', c ≤ c' ∧ c' < n ∧ t.place.toList[i]? = some (way t.mask (T.hash k) c')) →
      wpAny (model P w) A (setSearchFrom a (.ref x) (T.hash k) true fuel st) Q E s
  | 0, c, st, _, _, hf, _ => absurd hf (Nat.not_lt_zero _)
  | fuel + 1, c, st, hst, hc, hf, ahead => by
    obtain ⟨o, ho, hex, hd⟩ := R.ob
    have jw : ∀ q, (nth t.mask (prb t.mask (T.hash k) c) q).j = way t.mask (T.hash k) (c + q) := fun q => by rw [prb_add]
    have hsh : ∀ (i : Nat) p, L[i]? = some p → (es[i]?.map (·.1)).getD 0 = T.hash p.2 := fun i p e => by rw [R.at e]; rfl
    have sp := go_spec t R.tab.ris R.tab.dm (fun i => (es[i]?.map (·.1)).getD 0) (T.hash k) (10 * SetTable.turns t.mask) (n - c) (prb t.mask (T.hash k) c) (dummy_nth _ _ _ rfl) (by omega) (fun q hq => by rw [jw]; exact full _ (by omega)) (by rw [jw, Nat.add_sub_cancel' hc]; exact free)
    rw [setSearchFrom_succ]
    refine wpAny_bind (wpAny_setState_of ho hd R.fits ?_)
    dsimp only
    refine wp_if_neg R.gw ?_
    try refine wpAny_bind (wpAny_pure ?_)
    rw [hst]
    rcases sp with ⟨q, i, hq, hi, hh, before, pq⟩ | ⟨before, pq⟩
    · rw [jw] at hi
      have hp0 : t.probe (fun i => (es[i]?.map (·.1)).getD 0) (T.hash k) (prb t.mask (T.hash k) c) = some (.candidate (way t.mask (T.hash k) (c + q)) i (prb t.mask (T.hash k) (c + (q + 1)))) := by
        rw [← jw, ← prb_add]; exact pq
      rw [hp0]
      dsimp only
      have hil : i < L.length := by
        have z1 : i < t.place.size := by
          have := (List.getElem?_eq_some_iff.mp hi).1
          rwa [Array.length_toList] at this
        have z2 := R.tab.sz
        rw [List.length_map] at z2
        omega
      obtain ⟨p, hp⟩ : ∃ p, L[i]? = some p := ⟨_, List.getElem?_eq_getElem hil⟩
      have pm := List.mem_of_getElem? hp
      have live := slot_live R.tab.ris hi
      have go : wpAny (model P w) A (searchRest a (.ref x) (T.hash k) true fuel es t (way t.mask (T.hash k) (c + q)) i (prb t.mask (T.hash k) (c + (q + 1)))) Q E s := by
        unfold searchRest
        rw [R.at hp]
        refine wpAny_bind (wpAny_holding (T.eq hu (R.elt p pm) hx ?_))
        refine wpAny_bind (wpAny_setState_of ho hd R.fits ?_)
        dsimp only
        by_cases same : p.2 = k
        · refine wp_if_pos (by simp [same]) (wpAny_pure (yes ?_))
          exact List.mem_map.mpr ⟨p, pm, same⟩
        · refine wp_if_neg (by simp [same]) ?_
          try refine wpAny_bind (wpAny_pure ?_)
          rw [sameMem]
          simp only [if_true, live, R.at hp]
          refine wpAny_bind (wpAny_isSame_ref_self (wpAny_bind (wpAny_pure ?_)))
          simp only [if_true]
          refine wp_if_neg (by simp [same]) ?_
          refine findFrom R hx hu hn free full yes no fuel (c + (q + 1)) _ rfl (by omega) (by omega) fun i' p' e' k' => ?_
          obtain ⟨c', b1, b2, b3⟩ := ahead i' p' e' k'
          refine ⟨c', ?_, b2, b3⟩
          rcases Nat.lt_trichotomy c' (c + q) with z | z | z
          · refine absurd ?_ (before (c' - c) i' (by omega) (by rw [jw, Nat.add_sub_cancel' b1]; exact b3))
            rw [hsh i' p' e', k']
          · rw [z] at b3
            have two := slot_live R.tab.ris b3
            rw [live] at two
            injection two with two
            rw [← two, hp] at e'
            cases e'
            exact absurd k' same
          · omega
      by_cases hl : t.led = true
      · refine wp_if_neg (by simp [hl]) ?_
        try refine wpAny_bind (wpAny_pure ?_)
        exact go
      · refine wp_if_pos (by simp [hl]) ?_
        refine wpAny_bind (T.seen hx (fun y hy => ?_) ?_)
        · obtain ⟨e, he, ee⟩ := List.mem_map.mp hy
          have m : e ∈ es.toList := by
            have : e ∈ es ∧ e.1 = T.hash k := by simpa using he
            simpa using this.1
          rw [R.rows] at m
          obtain ⟨p2, m2, e2⟩ := List.mem_map.mp m
          exact ⟨p2.2, p2.1, by rw [← ee, ← e2], R.elt p2 m2⟩
        · refine wp_if_neg (by decide) ?_
          try refine wpAny_bind (wpAny_pure ?_)
          exact go
    · have hp0 : t.probe (fun i => (es[i]?.map (·.1)).getD 0) (T.hash k) (prb t.mask (T.hash k) c) = some (.empty (way t.mask (T.hash k) n) none) := by
        have z : way t.mask (T.hash k) n = (nth t.mask (prb t.mask (T.hash k) c) (n - c)).j := by rw [jw, Nat.add_sub_cancel' hc]
        rw [z]; exact pq
      rw [hp0]
      refine wpAny_pure (no fun m => ?_)
      obtain ⟨p', m', k'⟩ := List.mem_map.mp m
      obtain ⟨i', l', e'⟩ := List.getElem_of_mem m'
      have e' : L[i']? = some p' := by rw [List.getElem?_eq_getElem l', e']
      obtain ⟨c', b1, b2, b3⟩ := ahead i' p' e' k'
      refine before (c' - c) i' (by omega) (by rw [jw, Nat.add_sub_cancel' b1]; exact b3) ?_
      rw [hsh i' p' e', k']
end
end DS
namespace DS
open PySem PySem.Spec PyProof.Rows L2
/-- what adding asks of the things beside -/
structure EltA (P : Program) (w : World) (κ : Type) [DecidableEq κ] extends Elt P w κ where
  off : ∀ {h h' : Heap} {k : κ} {a b : Addr} {o : Obj} {es : Array (Int × Value)} {ep : Nat} {t : SetTable}, is h k b → h.get? a = some o → o.data = .set es ep t → Heap.SameBut a h h' → is h' k b
  byVal : ∀ {A : Around} {E : Value → Shared → Prop} {s : Shared} {k : κ} {x : Addr} {Q : Bool → Shared → Prop}, is s.heap k x → (∀ b, Q b s) → wpAny (model P w) A (hashByValue 8 (.ref x)) Q E s
section
variable {P : Program} {w : World} {κ : Type} [DecidableEq κ] {T : EltA P w κ} {A : Around} {E : Value → Shared → Prop} {s : Shared} {a : Addr} {L : List (Addr × κ)} {es : Array (Int × Value)} {ep : Nat} {t : SetTable}
theorem findAt (R : SetG T.toElt s.heap a L es ep t) {x : Addr} {k : κ} (hx : T.is s.heap k x) (hu : A.units < cLine) {Q : SetFound → Shared → Prop} (yes : k ∈ L.map (·.2) → Q (.there none) s)
    (no : ∀ n, k ∉ L.map (·.2) → way t.mask (T.hash k) n ∉ t.place.toList → (∀ c, c < n → way t.mask (T.hash k) c ∈ t.place.toList) → Q (.free (way t.mask (T.hash k) n) false) s) :
    wpAny (model P w) A (setSearch a (.ref x) (T.hash k) true) Q E s := bxU (by simp (disch := with_unfolding_all
  have z := R.room
  have zs := R.tab.sz
  rw [List.length_map] at zs
  obtain ⟨n, n1, n2, n3⟩ := R.tab.first (h := T.hash k) (by rw [List.length_map]; omega)
  have few : n < 100000 := by
    have : SetTable.turns t.mask ≤ 2062 := by
      unfold SetTable.turns
      rcases R.low with e | e | e | e | e <;> rw [e] <;> decide
    omega
  unfold setSearch
  refine findFrom R hx hu n1 n2 n3 yes (fun hn => no n hn n2 n3) 100000 0 none rfl (Nat.zero_le _) (by omega) fun i p e ek => ?_
  have li : i < t.place.toList.length := by
    have := (List.getElem?_eq_some_iff.mp e).1
    rw [Array.length_toList]
    omega
  have ej := List.getElem?_eq_getElem li
  obtain ⟨c, c1, c2⟩ := R.tab.before n2 (show (L.map fun p => T.hash p.2)[i]? = some (T.hash k) by rw [List.getElem?_map, e]; show some (T.hash p.2) = _; rw [ek]) ej
  exact ⟨c, Nat.zero_le _, c1, by rw [ej, c2]⟩) only [bxI])
theorem rws_len (L : List (Addr × κ)) : (rws T.toElt L).length = L.length := bxU (by simp (disch := with_unfolding_all (simp [rws])) only [bxI])
theorem picks (L : List (Addr × κ)) (hes : es.toList = rws T.toElt L) : ∀ l : List Nat, (∀ i ∈ l, i < L.length) → l.filterMap (fun i => es[i]?) = rws T.toElt (l.filterMap fun i => L[i]?) ∧ (l.filterMap fun i => L[i]?).map (fun p => T.hash p.2) = l.map fun i => (es.map (·.1)).getD i 0
  | [], _ => ⟨rfl, rfl⟩
  | i :: l, h => by
    obtain ⟨b1, b2⟩ := picks L hes l fun j hj => h j (List.mem_cons_of_mem _ hj)
    have hi := h i List.mem_cons_self
    have e1 : L[i]? = some L[i] := List.getElem?_eq_getElem hi
    have e2 : es[i]? = some (T.hash L[i].2, Value.ref L[i].1) := by
      have : es.toList[i]? = (rws T.toElt L)[i]? := by rw [hes]
      rw [Array.getElem?_toList] at this
      rw [this]
      simp [rws, e1]
    have e3 : (es.map (·.1)).getD i 0 = T.hash L[i].2 := by simp [Array.getD_eq_getD_getElem?, e2]
    rw [List.filterMap_cons_some e2, List.filterMap_cons_some e1, List.map_cons, List.map_cons, b2, e3, b1]
    exact ⟨rfl, rfl⟩
theorem all_in (L : List (Addr × κ)) : (List.range L.length).filterMap (fun i => L[i]?) = L := bxU (by simp (disch := with_unfolding_all
  apply List.ext_getElem?
  intro j
  have h : ∀ n, n ≤ L.length → (List.range n).filterMap (fun i => L[i]?) = L.take n := fun n => by
    induction n with
    | zero => intro _; rfl
    | succ n ih =>
      intro hn
      rw [List.range_succ, List.filterMap_append, ih (by omega), List.take_succ, List.getElem?_eq_getElem (by omega)]
      congr 1
      rw [List.filterMap_cons_some (List.getElem?_eq_getElem (by omega))]
      rfl
  rw [h _ (Nat.le_refl _), List.take_length]) only [bxI])
/-- the table laid anew, larger -/
theorem layAgain {o : Obj} (ho : s.heap.get? a = some o) (hex : o.ExactSet) (hd : o.data = .set es ep t) (hes : es.toList = rws T.toElt L) (hsz : t.place.size = es.size) (hdm : t.dummies = #[]) (hfl : es.size ≤ t.mask)
    (nd : (L.map (·.2)).Nodup) (elt : ∀ p ∈ L, T.is s.heap p.2 p.1) (ld : w.params.followText "set-order" = true ∨ t.led = true) (few : L.length < 1000) {want M : Nat}
    (hw : SetTable.sizeAbove want - 1 = M) (hM : MaskG M) (low : M = 7 ∨ M = 31 ∨ M = 127 ∨ M = 511 ∨ M = 2047) (hn : L.length * 5 < M * 3) {Q : Unit → Shared → Prop}
    (hQ : ∀ h' L' es' ep' t', Heap.SameBut a s.heap h' → SetG T.toElt h' a L' es' ep' t' → L'.Perm L → Q () { s with heap := h' }) : wpAny (model P w) A (setRelay a want) Q E s := bxU (by simp (disch := with_unfolding_all
  have sl : es.size = L.length := by rw [← Array.length_toList, hes, rws_len]
  have fits : t.fits es.size = true := by
    unfold SetTable.fits SetTable.fill
    rw [hdm, Bool.and_eq_true]
    exact ⟨beq_iff_eq.mpr hsz, decide_eq_true (by show t.place.size + 0 ≤ t.mask; omega)⟩
  obtain ⟨t', ord, e, hp, TT, em, el⟩ := relaidG t (hs := es.map (·.1)) (wanted := want) hw hM (by rw [Array.size_map]; omega)
  rw [Array.size_map, sl] at hp
  obtain ⟨r1, r3⟩ := picks L hes ord.toList fun i hi => List.mem_range.mp (hp.mem_iff.mp hi)
  have r2 : (ord.toList.filterMap fun i => L[i]?).Perm L := by
    have z := hp.filterMap fun i => L[i]?
    rw [all_in] at z
    exact z
  generalize ord.toList.filterMap (fun i => L[i]?) = L2 at r1 r2 r3
  rw [← r3] at TT
  have eo : (ord.filterMap (es[·]?)).toList = rws T.toElt L2 := by
    rw [← r1]
    first | exact Array.toList_filterMap | simp
  have so : (ord.filterMap (es[·]?)).size = es.size := by rw [← Array.length_toList, eo, rws_len, r2.length_eq, sl]
  rw [setRelay_eq]
  refine wpAny_bind (wpAny_setState_of ho hd fits ?_)
  dsimp only
  refine wp_if_neg (by rw [sizeLine_eq]; omega) ?_
  try refine wpAny_bind (wpAny_pure ?_)
  rw [e]
  refine wpAny_bind (wp_if_neg (by rw [so]; simp) ?_)
  try refine wpAny_bind (wpAny_pure ?_)
  refine wpAny_pure ?_
  dsimp only
  have same : Heap.SameBut a s.heap (s.heap.update a (Obj.putSet (ord.filterMap (es[·]?)) t')) := Heap.SameBut.update ..
  refine wpAny_storeSet_of ho hd (hQ _ L2 _ (ep + 1) t' same ⟨⟨_, store_at ho hd, ⟨hex.1, hex.2.1, hex.2.2⟩, rfl⟩, eo, TT, (r2.map (·.2)).nodup_iff.mpr nd, fun p m => T.off (elt p (r2.mem_iff.mp m)) ho hd same, ?_, ?_, ?_, by rw [em]; exact low⟩ r2) ?_
  · rw [el]; exact ld
  · rw [r2.length_eq, em]; exact hn
  · rw [r2.length_eq]; exact few
  · rw [so, sl, sizeLine_eq]; omega) only [bxI])
end
end DS
namespace DS
open PySem PySem.Spec PyProof.Rows L2
section
variable {P : Program} {w : World} {κ : Type} [DecidableEq κ] {T : EltA P w κ} {A : Around} {E : Value → Shared → Prop} {s : Shared} {a : Addr} {L : List (Addr × κ)} {es : Array (Int × Value)} {ep : Nat} {t : SetTable}
theorem rws_ins (L : List (Addr × κ)) (p : Nat) (x : Addr) (k : κ) : (rws T.toElt L).take p ++ (T.hash k, Value.ref x) :: (rws T.toElt L).drop p = rws T.toElt (L.take p ++ (x, k) :: L.drop p) := by
  simp [rws, List.map_take, List.map_drop]
/-- a thing is put in -/
theorem addAt (R : SetG T.toElt s.heap a L es ep t) {x : Addr} {k : κ} (hx : T.is s.heap k x) (hu : A.units < cLine) (hfew0 : k ∉ L.map (·.2) → L.length + 1 < 1000) {Q : Bool → Shared → Prop}
    (hQ : ∀ b h' L' es' ep' t', Heap.SameBut a s.heap h' → SetG T.toElt h' a L' es' ep' t' → (k ∈ L.map (·.2) → L' = L) → (k ∉ L.map (·.2) → L'.Perm ((x, k) :: L)) → Q b { s with heap := h' }) :
    wpAny (model P w) A (setAddHashed a (.ref x) (T.hash k)) Q E s := bxU (by simp (disch := with_unfolding_all
  obtain ⟨o, ho, hex, hd⟩ := R.ob
  have sl := R.size
  have room := R.room
  unfold setAddHashed
  refine wpAny_holding ?_
  rw [show (100000 : Nat) = 99999 + 1 from rfl, setAddHashedIn_succ]
  refine wpAny_bind (wpAny_setState_of ho hd R.fits ?_)
  dsimp only
  refine wp_if_neg (by simp [byScan, Value.scannable]) ?_
  try refine wpAny_bind (wpAny_pure ?_)
  refine wpAny_bind (findAt R hx hu (fun hm => ?_) fun n hm free full => ?_)
  · exact wpAny_pure (hQ false s.heap L es ep t (Heap.SameBut.refl a s.heap) R (fun _ => rfl) fun z => absurd hm z)
  have hfew := hfew0 hm
  refine wpAny_bind (wpAny_setState_of ho hd R.fits ?_)
  dsimp only
  obtain ⟨q1, q2, q3, q4, q5, q9⟩ := R.tab.put free ⟨n, rfl, full⟩
  generalize t.put (way t.mask (T.hash k) n) = pt at q1 q3 q4 q5 q9 ⊢
  obtain ⟨t1, p⟩ := pt
  dsimp only at q1 q3 q4 q5 q9 ⊢
  subst q1
  have both : ∀ M : Bool → Sem Bool, (∀ bv, wpAny (model P w) A (M bv) Q E s) → wpAny (model P w) A (if t1.plain = true then hashByValue 8 (.ref x) >>= M else pure true >>= M) Q E s := fun M hM => by
    by_cases pl : t1.plain = true
    · exact wp_if_pos pl (wpAny_bind (T.byVal hx hM))
    · exact wp_if_neg pl (wpAny_bind (wpAny_pure (hM true)))
  refine both _ fun bv => ?_
  obtain ⟨t2, et, u3, u4, u5, u9, u10⟩ : ∃ t2, (if bv = true then t1 else { t1 with plain := false }) = t2 ∧ TabG t2 _ ∧ t2.mask = t.mask ∧ t2.led = t.led ∧ t2.tooFull = t1.tooFull ∧ t2.place = t1.place := by
    cases bv with
    | true => exact ⟨t1, rfl, q3, q4, q5, rfl, rfl⟩
    | false => exact ⟨{ t1 with plain := false }, rfl, ⟨q3.1, q3.2, q3.3, q3.4, q3.5⟩, q4, q5, rfl, rfl⟩
  rw [et]
  clear et
  have rin : (SetTable.insertAt es (SetTable.below t.place (way t.mask (T.hash k) n)) (T.hash k, Value.ref x)).toList = rws T.toElt (L.take (SetTable.below t.place (way t.mask (T.hash k) n)) ++ (x, k) :: L.drop (SetTable.below t.place (way t.mask (T.hash k) n))) := by
    rw [SetTable.toList_insertAt, R.rows, rws_ins]
  generalize SetTable.below t.place (way t.mask (T.hash k) n) = p at q2 u3 rin ⊢
  have pm : (L.take p ++ (x, k) :: L.drop p).Perm ((x, k) :: L) := put_perm L p (x, k)
  have hh : (L.map fun p => T.hash p.2).take p ++ T.hash k :: (L.map fun p => T.hash p.2).drop p = (L.take p ++ (x, k) :: L.drop p).map fun p => T.hash p.2 := by simp [List.map_take, List.map_drop]
  rw [hh] at u3
  generalize L.take p ++ (x, k) :: L.drop p = L1 at pm u3 rin
  have l1 : L1.length = L.length + 1 := pm.length_eq
  have nd1 : (L1.map (·.2)).Nodup := (pm.map (·.2)).nodup_iff.mpr (List.nodup_cons.mpr ⟨hm, R.nd⟩)
  have es1l : (SetTable.insertAt es p (T.hash k, Value.ref x)).size = L.length + 1 := by rw [← Array.length_toList, rin, rws_len, l1]
  generalize SetTable.insertAt es p (T.hash k, Value.ref x) = es1 at rin es1l ⊢
  refine wpAny_bind (wpAny_storeSet_of ho hd ?_ (by rw [es1l, sizeLine_eq]; omega))
  have same : Heap.SameBut a s.heap (s.heap.update a (Obj.putSet es1 t2)) := Heap.SameBut.update ..
  have ho1 := store_at (es' := es1) (t' := t2) ho hd
  generalize s.heap.update a (Obj.putSet es1 t2) = h1 at same ho1 ⊢
  have elt1 : ∀ p ∈ L1, T.is h1 p.2 p.1 := fun p hp => by
    rcases List.mem_cons.mp (pm.mem_iff.mp hp) with e | hp
    · subst e; exact T.off hx ho hd same
    · exact T.off (R.elt p hp) ho hd same
  have ld1 : w.params.followText "set-order" = true ∨ t2.led = true := by rw [u5]; exact R.led
  have full5 : t2.tooFull = decide ((L.length + 1) * 5 ≥ t2.mask * 3) := by
    rw [u9]
    unfold SetTable.tooFull
    rw [q9, List.length_map, q4, u4]
  by_cases hf : t2.tooFull = true
  · have big : (L.length + 1) * 5 ≥ t2.mask * 3 := by rw [full5] at hf; exact of_decide_eq_true hf
    have pz : t2.place.size = es1.size := by
      have z := u3.sz
      rw [List.length_map, l1] at z
      rw [z, es1l]
    have four : L.length = 4 ∨ L.length = 18 ∨ L.length = 76 ∨ L.length = 306 := by
      rw [u4] at big
      rcases R.low with e | e | e | e | e <;> omega
    first
      | (refine wpAny_bind ?_; refine wp_if_pos (by simp [hf]) ?_)
      | (refine wp_if_pos (by simp [hf]) ?_; refine wpAny_bind ?_)
    rw [sl]
    have lay : ∀ M, SetTable.sizeAbove (SetTable.grown (L.length + 1)) - 1 = M → MaskG M → (M = 7 ∨ M = 31 ∨ M = 127 ∨ M = 511 ∨ M = 2047) → (L.length + 1) * 5 < M * 3 →
        wpAny (model P w) A (setRelay a (SetTable.grown (L.length + 1))) (fun _ s' => wpAny (model P w) A (pure true) Q E s') E { s with heap := h1 } := fun M m1 m2 m3 m4 =>
      layAgain (T := T) (s := { s with heap := h1 }) ho1 ⟨hex.1, hex.2.1, hex.2.2⟩ rfl rin pz u3.dm (by rw [es1l, u4]; omega) nd1 elt1 ld1 (by rw [l1]; exact hfew) m1 m2 m3 (by rw [l1]; exact m4)
        fun h2 L2 es2 ep2 t2 sb2 R2 pm2 => wpAny_pure (hQ true h2 L2 es2 ep2 t2 (same.trans sb2) R2 (fun z => absurd z hm) fun _ => pm2.trans pm)
    rcases four with e | e | e | e
    · exact lay 31 (by rw [e, grow_5]) ⟨4, rfl⟩ (by decide) (by omega)
    · exact lay 127 (by rw [e, grow_19]) ⟨6, rfl⟩ (by decide) (by omega)
    · exact lay 511 (by rw [e, grow_77]) ⟨8, rfl⟩ (by decide) (by omega)
    · exact lay 2047 (by rw [e, grow_307]) ⟨10, rfl⟩ (by decide) (by omega)
  · have small : (L.length + 1) * 5 < t2.mask * 3 := by
      rw [full5, decide_eq_true_eq] at hf
      omega
    first
      | refine wp_if_neg (by simp [hf]) ?_
      | (refine wpAny_bind ?_; refine wp_if_neg (by simp [hf]) ?_; refine wpAny_pure ?_)
    exact wpAny_pure (hQ true h1 L1 es1 (ep + 1) t2 same ⟨⟨_, ho1, ⟨hex.1, hex.2.1, hex.2.2⟩, rfl⟩, rin, u3, nd1, elt1, ld1, by rw [l1]; exact small, by rw [l1]; exact hfew, by rw [u4]; exact R.low⟩ (fun z => absurd z hm) fun _ => pm)) only [bxI])
end
end DS
namespace DS
open PySem PySem.Spec PyProof.Rows L2
structure EltH (P : Program) (w : World) (κ : Type) [DecidableEq κ] extends EltA P w κ where
  up : ∀ {h h' : Heap} {k : κ} {b : Addr}, is h k b → (∀ c o, h.get? c = some o → h'.get? c = some o) → is h' k b
  hsh : ∀ {A : Around} {E : Value → Shared → Prop} {s : Shared} {k : κ} {x : Addr} {Q : Int → Shared → Prop}, A.units < cLine → is s.heap k x → (∀ tk, s.toks ≤ tk → Q (hash k) { s with toks := tk }) → wpAny (model P w) A (pyHash (.ref x)) Q E s
/-- fewer than 1000 different ones -/
def FewK {κ : Type} (ks : List (Addr × κ)) : Prop := ∃ U : List κ, U.length < 1000 ∧ ∀ p ∈ ks, p.2 ∈ U
theorem sub_len {κ : Type} [DecidableEq κ] : ∀ (l U : List κ), l.Nodup → (∀ x ∈ l, x ∈ U) → l.length ≤ U.length
  | [], _, _, _ => Nat.zero_le _
  | x :: l, U, nd, h => by
    obtain ⟨h1, h2⟩ := List.nodup_cons.mp nd
    have hx : x ∈ U := h x List.mem_cons_self
    have := sub_len l (U.erase x) h2 fun y hy => (List.mem_erase_of_ne (fun e : y = x => h1 (by rw [← e]; exact hy))).mpr (h y (List.mem_cons_of_mem _ hy))
    rw [List.length_erase_of_mem hx] at this
    have pos : 0 < U.length := List.length_pos_of_mem hx
    rw [List.length_cons]
    omega
structure Brought {κ : Type} (ks : List (Addr × κ)) (i : Nat) (L : List (Addr × κ)) : Prop where
  from_ : ∀ p ∈ L, p ∈ ks.take i
  all : ∀ p ∈ ks.take i, p.2 ∈ L.map (·.2)
  few : L.length ≤ i
theorem Brought.none {κ : Type} (ks : List (Addr × κ)) : Brought ks 0 [] := bxU (by simp (disch := with_unfolding_all
  exact ⟨by simp, by simp, Nat.le_refl _⟩) only [bxI])
section
variable {κ : Type} {ks L L' : List (Addr × κ)} {i : Nat} {x : Addr × κ}
theorem tk_succ (h : ks[i]? = some x) : ks.take (i + 1) = ks.take i ++ [x] := bxU (by simp (disch := with_unfolding_all (rw [List.take_succ, h]; rfl)) only [bxI])
theorem Brought.old (g : Brought ks i L) (h : ks[i]? = some x) (m : x.2 ∈ L.map (·.2)) : Brought ks (i + 1) L := bxU (by simp (disch := with_unfolding_all
  refine ⟨fun p hp => by rw [tk_succ h]; exact List.mem_append_left _ (g.from_ p hp), fun p hp => ?_, Nat.le_succ_of_le g.few⟩
  rw [tk_succ h] at hp
  rcases List.mem_append.mp hp with z | z
  · exact g.all p z
  · rw [List.mem_singleton.mp z]; exact m) only [bxI])
theorem Brought.new (g : Brought ks i L) (h : ks[i]? = some x) (pm : L'.Perm (x :: L)) : Brought ks (i + 1) L' := bxU (by simp (disch := with_unfolding_all
  refine ⟨fun p hp => ?_, fun p hp => ?_, by rw [pm.length_eq]; exact Nat.succ_le_succ g.few⟩
  · rw [tk_succ h]
    rcases List.mem_cons.mp (pm.mem_iff.mp hp) with e | z
    · subst e; exact List.mem_append_right _ List.mem_cons_self
    · exact List.mem_append_left _ (g.from_ p z)
  · rw [tk_succ h] at hp
    refine (pm.map (·.2)).mem_iff.mpr ?_
    rcases List.mem_append.mp hp with z | z
    · exact List.mem_cons_of_mem _ (g.all p z)
    · rw [List.mem_singleton.mp z]; exact List.mem_cons_self) only [bxI])
end
section
variable {P : Program} {w : World} {κ : Type} [DecidableEq κ] {T : EltH P w κ} {A : Around}
theorem SetG.up {h h' : Heap} {a : Addr} {L : List (Addr × κ)} {es : Array (Int × Value)} {ep : Nat} {t : SetTable} (R : SetG T.toElt h a L es ep t) (ha : ∀ o, h.get? a = some o → h'.get? a = some o) (hk : ∀ p ∈ L, T.is h' p.2 p.1) : SetG T.toElt h' a L es ep t :=
  have ⟨o, ho, r⟩ := R.ob
  { R with ob := ⟨o, ha o ho, r⟩, elt := hk }
theorem SetG.empty {h : Heap} {a : Addr} (ho : h.get? a = some { cls := .type "set", dict := none, data := .set #[] 0 (.fresh 0 0 (!w.params.followText "set-order")) }) : SetG T.toElt h a [] #[] 0 (.fresh 0 0 (!w.params.followText "set-order")) := bxU (by simp (disch := with_unfolding_all
  refine ⟨⟨_, ho, ⟨rfl, rfl, rfl⟩, rfl⟩, rfl, ⟨⟨2, rfl⟩, List.Pairwise.nil, rfl, rfl, fun i j h ej hi => (by simp at hi)⟩, List.nodup_nil, fun p hp => (by cases hp), ?_, (by decide : 0 * 5 < 7 * 3), (by decide : 0 < 1000), .inl rfl⟩
  cases hs : w.params.followText "set-order" with
  | true => exact .inl rfl
  | false => exact .inr rfl) only [bxI])
/-- the loop of set.update -/
theorem putAll {I : Addr} {fp wr : List Addr} {G : Array GenState → Array GenState → Prop} {n : Nat} {Pv : Nat → Value → Prop} {St : Nat → Shared → Prop} {R : Result → Shared → Prop} (W : WalksS P w A.in1 I fp wr G n Pv St) (S : Addr) (hSf : S ∉ fp) (ks : List (Addr × κ)) (hn : n = ks.length) (hfew : FewK ks)
    (hval : ∀ i v, Pv i v → ∃ p, ks[i]? = some p ∧ v = .ref p.1) (h0 : Heap) (hk : ∀ p ∈ ks, T.is h0 p.2 p.1) (hS0 : h0.get? S = none) (hw0 : ∀ b ∈ wr, h0.get? b = none) (hu : A.in1.units < cLine) :
    ∀ (m i : Nat) (s : Shared), n - i = m → i ≤ n → St i s → (∀ b o, h0.get? b = some o → s.heap.get? b = some o) → (∃ L es ep t, SetG T.toElt s.heap S L es ep t ∧ Brought ks i L) →
      (∀ s' L es ep t, Moved (S :: wr) G s s' → SetG T.toElt s'.heap S L es ep t → Brought ks n L → (∀ b o, h0.get? b = some o → s'.heap.get? b = some o) → R (.ok (.ret .none)) s') →
      codeAny (model P w) A (.builtin "set.update.loop" ⟨[.ref S, .ref I], []⟩) R s := bxU (by simp (disch := with_unfolding_all
  have nSw : S ∉ wr := fun h => hSf (W.sub _ h)
  have wider : ∀ b ∈ wr, b ∈ S :: wr := fun b hb => List.mem_cons_of_mem _ hb
  have base : ∀ {s s' : Shared}, Moved wr G s s' → (∀ b o, h0.get? b = some o → s.heap.get? b = some o) → ∀ b o, h0.get? b = some o → s'.heap.get? b = some o := fun mv kp b o e => mv.heap b o (fun hb => by rw [hw0 b hb] at e; cases e) (kp b o e)
  intro m
  induction m with
  | zero =>
    intro i s hm hi hst kp ⟨L, es, ep, t, hS, g⟩ hR
    obtain rfl : i = n := by omega
    refine codeAny_builtin F.entry_set_update_loop ?_
    rw [Around.under_plainId F.plain_set_update_loop _]
    show wpAny _ A.in1 (pyNext (.ref I) >>= _) _ _ s
    refine wpAny_bind (W.done s _ _ hst fun s' mv => ?_)
    have kp' := base mv kp
    exact wpAny_pure (hR s' L es ep t (mv.mono wider) (hS.up (fun o e => mv.heap S o nSw e) fun p hp => T.up (hk p (List.mem_of_mem_take (g.from_ p hp))) kp') g kp')
  | succ m ih =>
    intro i s hm hi hst kp ⟨L, es, ep, t, hS, g⟩ hR
    have hlt : i < n := by omega
    refine codeAny_builtin F.entry_set_update_loop ?_
    rw [Around.under_plainId F.plain_set_update_loop _]
    show wpAny _ A.in1 (pyNext (.ref I) >>= _) _ _ s
    refine wpAny_bind (W.item i s _ _ hlt hst fun v s' hP hst' mv => ?_)
    obtain ⟨p, hp, rfl⟩ := hval i v hP
    have kp' := base mv kp
    have hS' : SetG T.toElt s'.heap S L es ep t := hS.up (fun o e => mv.heap S o nSw e) fun q hq => T.up (hk q (List.mem_of_mem_take (g.from_ q hq))) kp'
    have hx : T.is s'.heap p.2 p.1 := T.up (hk p (List.mem_of_getElem? hp)) kp'
    have gl := g.few
    show wpAny _ A.in1 (holding [Value.ref p.1] (setAdd S (.ref p.1)) >>= _) _ _ s'
    refine wpAny_bind (wpAny_holding ?_)
    unfold setAdd
    refine wpAny_holding (wpAny_bind (T.hsh hu hx fun tk htk => ?_))
    have lim : p.2 ∉ L.map (·.2) → L.length + 1 < 1000 := fun hne => by
      obtain ⟨U, hU, hin⟩ := hfew
      have := sub_len (p.2 :: L.map (·.2)) U (List.nodup_cons.mpr ⟨hne, hS'.nd⟩) fun y hy => by
        rcases List.mem_cons.mp hy with rfl | hy
        · exact hin p (List.mem_of_getElem? hp)
        · obtain ⟨q, hq, rfl⟩ := List.mem_map.mp hy
          exact hin q (List.mem_of_mem_take (g.from_ q hq))
      rw [List.length_cons, List.length_map] at this
      omega
    refine addAt (T := T.toEltA) (s := { s' with toks := tk }) hS' hx hu lim fun b h' L' es' ep' t' sb hS2 c1 c2 => ?_
    have g' : Brought ks (i + 1) L' := by
      by_cases c : p.2 ∈ L.map (·.2)
      · rw [c1 c]; exact g.old hp c
      · exact g.new hp (c2 c)
    have kp2 : ∀ b o, h0.get? b = some o → h'.get? b = some o := fun b o e => (sb.2 b (fun z => by rw [z, hS0] at e; cases e)).trans (kp' b o e)
    refine wpAny_pure ⟨plainId_quiet F.plain_set_update_loop _, ih (i + 1) _ (by omega) hlt (W.frame _ s' _ _ hst' htk fun b hb o e => ?_) kp2 ⟨L', es', ep', t', hS2, g'⟩ fun s2 L2 es2 ep2 t2 mv2 hS3 g3 kp3 => ?_⟩
    · rw [sb.2 b (fun z : b = S => hSf (z ▸ hb))]; exact e
    · refine hR s2 L2 es2 ep2 t2 (Moved.trans W.gtrans ((mv.mono wider).then_heap htk fun b o hb e => ?_) mv2) hS3 g3 kp3
      rw [sb.2 b (fun z : b = S => hb (by rw [z]; exact List.mem_cons_self))]; exact e) only [bxI])
end
end DS
namespace DS
open PySem PySem.Spec PyProof.Rows L2
abbrev newS (w : World) : Obj := { cls := .type "set", dict := none, data := .set #[] 0 (.fresh 0 0 (!w.params.followText "set-order")) }
section
variable {P : Program} {w : World} {κ : Type} [DecidableEq κ] {T : EltH P w κ} {A : Around} {E : Value → Shared → Prop} {s : Shared}
theorem vals_at {items : Array Value} {ks : List (Addr × κ)} (hit : items.toList = ks.map fun p => Value.ref p.1) (i : Nat) (v : Value) (e : items[i]? = some v) : ∃ p, ks[i]? = some p ∧ v = .ref p.1 := bxU (by simp (disch := with_unfolding_all
  rw [← Array.getElem?_toList, hit, List.getElem?_map] at e
  cases z : ks[i]? with
  | none => rw [z] at e; cases e
  | some p => rw [z] at e; exact ⟨p, rfl, (Option.some.inj e).symm⟩) only [bxI])
theorem none_at {h : Heap} {b : Addr} (hb : h.objs.size ≤ b) : h.get? b = none := bxU (by simp (disch := with_unfolding_all
  cases e : h.get? b with
  | none => rfl
  | some o => exact absurd (Heap.lt_size e) (Nat.not_lt.mpr hb)) only [bxI])
/-- set.__init__ of a new set and a list -/
theorem init_ok {l : Addr} {items : Array Value} (ks : List (Addr × κ)) (hh : A.handled = none) (hl : s.heap.IsList l items) (hit : items.toList = ks.map fun p => Value.ref p.1) (hk : ∀ p ∈ ks, T.is s.heap p.2 p.1) (hfew : FewK ks) (hu : A.units + 3 < cLine)
    {F1 : Fin → Shared → Prop} {F2 : Value → Shared → Prop} (hR : ∀ h' tk L es ep t, SetG T.toElt h' s.heap.objs.size L es ep t → Brought ks ks.length L → (∀ b o, s.heap.get? b = some o → h'.get? b = some o) → F1 (.done (.ret .none)) { s with heap := h', toks := tk }) :
    wpAny (model P w) A.in1.in1 (Builtin.«set.__init__» ⟨[.ref s.heap.objs.size, .ref l], []⟩) F1 F2 { s with heap := s.heap.push (newS w) } := bxU (by simp (disch := with_unfolding_all
  have isz : items.size = ks.length := by rw [← Array.length_toList, hit, List.length_map]
  have hS : (s.heap.push (newS w)).get? s.heap.objs.size = some (newS w) := Heap.get?_push_size _ rfl
  obtain ⟨ol, hol, hcl, nl, hdl⟩ := hl
  obtain ⟨ocls, odict, odata, oslots⟩ := ol
  simp only at hcl hdl
  subst hcl; subst hdl
  have hol' : (s.heap.push (newS w)).get? l = some { cls := .type "list", dict := odict, data := .seq items nl, slots := oslots } := Heap.get?_push_of_some _ hol
  have hl1 : (s.heap.push (newS w)).IsList l items := ⟨_, hol', rfl, nl, rfl⟩
  have z1 := F.sub_list_set
  have z2 := F.sub_list_frozenset
  have z3 : (Value.type "list" == Value.type "dict") = false := by decide
  have lS : l < s.heap.objs.size := Heap.lt_size hol
  unfold Builtin.«set.__init__» noKeywords Builtin.Frozenset.updateFrom
  generalize hPI : pyIter = PI
  wp_walk
  subst hPI
  refine wpAny_pyIter_list hl1 (wpAny_bind (wpAny_runValue ?_))
  have sz : (s.heap.push (newS w)).objs.size = s.heap.objs.size + 1 := Heap.size_push ..
  refine putAll (T := T) ((Walks.list (by simp [hh]) _ l (by rw [sz]; exact Nat.ne_of_lt (Nat.lt_succ_of_lt lS)) items).toS) s.heap.objs.size (by rw [sz]; simp only [List.mem_cons, List.not_mem_nil, or_false, not_or]; exact ⟨Nat.ne_of_lt (Nat.lt_succ_self _), Nat.ne_of_gt lS⟩) ks isz hfew (vals_at hit) s.heap hk (none_at (Nat.le_refl _)) (fun b hb => none_at (by rw [List.mem_singleton.mp hb, sz]; exact Nat.le_succ _)) hu (items.size - 0) 0 _ (by omega) (Nat.zero_le _)
    ⟨⟨_, Heap.get?_push_size _ rfl, rfl, rfl⟩, (hl1.push _)⟩ (fun b o e => Heap.get?_push_of_some _ (Heap.get?_push_of_some _ e)) ⟨[], #[], 0, _, SetG.empty (T := T) (Heap.get?_push_of_some _ hS), Brought.none ks⟩ fun s' L es ep t mv hS' g' kp => ?_
  obtain ⟨h', g2, d', tk', os'⟩ := s'
  obtain rfl : g2 = s.gens := mv.gens
  obtain rfl : d' = s.drawn := mv.drawn
  obtain rfl : os' = s.os := mv.os
  rw [isz] at g'
  exact wpAny_pure (wpAny_pure (hR h' tk' L es ep t hS' g' kp))) only [bxI])
theorem setOfList {l : Addr} {items : Array Value} (ks : List (Addr × κ)) {Q : Value → Shared → Prop} (hh : A.handled = none) (hl : s.heap.IsList l items) (hit : items.toList = ks.map fun p => Value.ref p.1) (hk : ∀ p ∈ ks, T.is s.heap p.2 p.1) (hfew : FewK ks) (hu : A.units + 3 < cLine)
    (h : ∀ (h' : Heap) (tk : Nat) L es ep t, SetG T.toElt h' s.heap.objs.size L es ep t → Brought ks ks.length L → (∀ b o, s.heap.get? b = some o → h'.get? b = some o) → Q (.ref s.heap.objs.size) { s with heap := h', toks := tk }) :
    wpAny (model P w) A (call (.type "set") [.ref l]) Q E s := by
  have isz : items.size = ks.length := by rw [← Array.length_toList, hit, List.length_map]
  obtain ⟨c0, tl0, w1⟩ := F.called_set.mro
  have w2 := F.called_set.made
  have w3 := F.called_set.sub
  have w4 := F.called_set.notType
  have w5 := F.called_set.canCreate
  have w6 := F.typeCall_set_1 (.ref l)
  have hS : (s.heap.push (newS w)).get? s.heap.objs.size = some (newS w) := Heap.get?_push_size _ rfl
  have back : codeAny (model P w) A.in1 (.call (.builtin "set.__init__") ⟨[.ref s.heap.objs.size, .ref l], []⟩) (wants (fun r s₂ => r = .none ∧ ∃ h' tk L es ep t, s₂ = { s with heap := h', toks := tk } ∧ SetG T.toElt h' s.heap.objs.size L es ep t ∧ Brought ks ks.length L ∧ ∀ b o, s.heap.get? b = some o → h'.get? b = some o) E) { s with heap := s.heap.push (newS w) } := by
    refine codeAny_call_builtin F.called_set.init.plain F.entry_set_init (check_set_init_1 ⟨_, hS, rfl⟩ ?_)
    exact init_ok (T := T) ks hh hl hit hk hfew hu fun h' tk L es ep t b1 b2 b3 => ⟨rfl, h', tk, L, es, ep, t, rfl, b1, b2, b3⟩
  refine wpAny_call (codeAny_of_tree ?_)
  show wpAny _ _ (callAny (.type "set") _) _ _ _
  refine wpAny_pure ⟨Code.quiet_builtin _ (by decide +kernel), codeAny_builtin F.entry_type_call ?_⟩
  rw [Around.under_plain (weight_type_call_type "set" [.ref l] []) rfl]
  repeat (any_goals (first | assumption | wp_step))
  refine codeAny_mono (code_set_led1 (.ref l) (E := E) (Q₁ := fun obj s₁ => obj = .ref s.heap.objs.size ∧ s₁ = { s with heap := s.heap.push (newS w) }) ⟨rfl, rfl⟩) fun r s₁ hr => ?_
  match r, hr with
  | .error e, hr => exact hr
  | .ok (.ret obj), hr =>
    obtain ⟨rfl, rfl⟩ := hr
    have w7 : Shared.TypeIs { s with heap := s.heap.push (newS w) } (.ref s.heap.objs.size) "set" := ⟨_, hS, rfl⟩
    have w8 := F.called_set.init.lookup
    have w9 := F.called_set.init.bind (.ref s.heap.objs.size)
    repeat (any_goals (first | assumption | wp_step))
    refine codeAny_mono back fun r₂ s₂ hr₂ => ?_
    match r₂, hr₂ with
    | .error e, hr₂ => exact hr₂
    | .ok (.ret z), hr₂ =>
      obtain ⟨rfl, h', tk, L, es, ep, t, rfl, b1, b2, b3⟩ := hr₂
      repeat (any_goals (first | assumption | wp_step))
      exact h _ _ _ _ _ _ b1 b2 b3
    | .ok .next, hr₂ => exact hr₂.elim
    | .ok .brk, hr₂ => exact hr₂.elim
    | .ok .cont, hr₂ => exact hr₂.elim
  | .ok .next, hr => exact hr.elim
  | .ok .brk, hr => exact hr.elim
  | .ok .cont, hr => exact hr.elim
end
end DS
namespace DS
open PySem PySem.Spec PyProof.Rows L2
section
variable {P : Program} {w : World} {κ : Type} [DecidableEq κ] {T : EltH P w κ} {A : Around} {E : Value → Shared → Prop} {s : Shared}
/-- set.__init__ of a new set and a tuple -/
theorem init_okT {l : Addr} {items : Array Value} (ks : List (Addr × κ)) (hh : A.handled = none) (hl : s.heap.IsTuple l items) (hit : items.toList = ks.map fun p => Value.ref p.1) (hk : ∀ p ∈ ks, T.is s.heap p.2 p.1) (hfew : FewK ks) (hu : A.units + 3 < cLine)
    {F1 : Fin → Shared → Prop} {F2 : Value → Shared → Prop} (hR : ∀ h' tk L es ep t, SetG T.toElt h' s.heap.objs.size L es ep t → Brought ks ks.length L → (∀ b o, s.heap.get? b = some o → h'.get? b = some o) → F1 (.done (.ret .none)) { s with heap := h', toks := tk }) :
    wpAny (model P w) A.in1.in1 (Builtin.«set.__init__» ⟨[.ref s.heap.objs.size, .ref l], []⟩) F1 F2 { s with heap := s.heap.push (newS w) } := bxU (by simp (disch := with_unfolding_all
  have isz : items.size = ks.length := by rw [← Array.length_toList, hit, List.length_map]
  have hS : (s.heap.push (newS w)).get? s.heap.objs.size = some (newS w) := Heap.get?_push_size _ rfl
  obtain ⟨ol, hol, hcl, nl, hdl⟩ := hl
  obtain ⟨ocls, odict, odata, oslots⟩ := ol
  simp only at hcl hdl
  subst hcl; subst hdl
  have hol' : (s.heap.push (newS w)).get? l = some { cls := .type "tuple", dict := odict, data := .seq items nl, slots := oslots } := Heap.get?_push_of_some _ hol
  have hl1 : (s.heap.push (newS w)).IsTuple l items := ⟨_, hol', rfl, nl, rfl⟩
  have z1 := F.sub_tuple_set
  have z2 := F.sub_tuple_frozenset
  have z3 : (Value.type "tuple" == Value.type "dict") = false := by decide
  have lS : l < s.heap.objs.size := Heap.lt_size hol
  unfold Builtin.«set.__init__» noKeywords Builtin.Frozenset.updateFrom
  generalize hPI : pyIter = PI
  wp_walk
  subst hPI
  refine wpAny_pyIter_tuple hl1 (wpAny_bind (wpAny_runValue ?_))
  have sz : (s.heap.push (newS w)).objs.size = s.heap.objs.size + 1 := Heap.size_push ..
  refine putAll (T := T) ((Walks.tuple (by simp [hh]) _ l (by rw [sz]; exact Nat.ne_of_lt (Nat.lt_succ_of_lt lS)) items).toS) s.heap.objs.size (by rw [sz]; simp only [List.mem_cons, List.not_mem_nil, or_false, not_or]; exact ⟨Nat.ne_of_lt (Nat.lt_succ_self _), Nat.ne_of_gt lS⟩) ks isz hfew (vals_at hit) s.heap hk (none_at (Nat.le_refl _)) (fun b hb => none_at (by rw [List.mem_singleton.mp hb, sz]; exact Nat.le_succ _)) hu (items.size - 0) 0 _ (by omega) (Nat.zero_le _)
    ⟨⟨_, Heap.get?_push_size _ rfl, rfl, rfl⟩, (hl1.push _)⟩ (fun b o e => Heap.get?_push_of_some _ (Heap.get?_push_of_some _ e)) ⟨[], #[], 0, _, SetG.empty (T := T) (Heap.get?_push_of_some _ hS), Brought.none ks⟩ fun s' L es ep t mv hS' g' kp => ?_
  obtain ⟨h', g2, d', tk', os'⟩ := s'
  obtain rfl : g2 = s.gens := mv.gens
  obtain rfl : d' = s.drawn := mv.drawn
  obtain rfl : os' = s.os := mv.os
  rw [isz] at g'
  exact wpAny_pure (wpAny_pure (hR h' tk' L es ep t hS' g' kp))) only [bxI])
theorem setOfTup {l : Addr} {items : Array Value} (ks : List (Addr × κ)) {Q : Value → Shared → Prop} (hh : A.handled = none) (hl : s.heap.IsTuple l items) (hit : items.toList = ks.map fun p => Value.ref p.1) (hk : ∀ p ∈ ks, T.is s.heap p.2 p.1) (hfew : FewK ks) (hu : A.units + 3 < cLine)
    (h : ∀ (h' : Heap) (tk : Nat) L es ep t, SetG T.toElt h' s.heap.objs.size L es ep t → Brought ks ks.length L → (∀ b o, s.heap.get? b = some o → h'.get? b = some o) → Q (.ref s.heap.objs.size) { s with heap := h', toks := tk }) :
    wpAny (model P w) A (call (.type "set") [.ref l]) Q E s := by
  have isz : items.size = ks.length := by rw [← Array.length_toList, hit, List.length_map]
  obtain ⟨c0, tl0, w1⟩ := F.called_set.mro
  have w2 := F.called_set.made
  have w3 := F.called_set.sub
  have w4 := F.called_set.notType
  have w5 := F.called_set.canCreate
  have w6 := F.typeCall_set_1 (.ref l)
  have hS : (s.heap.push (newS w)).get? s.heap.objs.size = some (newS w) := Heap.get?_push_size _ rfl
  have back : codeAny (model P w) A.in1 (.call (.builtin "set.__init__") ⟨[.ref s.heap.objs.size, .ref l], []⟩) (wants (fun r s₂ => r = .none ∧ ∃ h' tk L es ep t, s₂ = { s with heap := h', toks := tk } ∧ SetG T.toElt h' s.heap.objs.size L es ep t ∧ Brought ks ks.length L ∧ ∀ b o, s.heap.get? b = some o → h'.get? b = some o) E) { s with heap := s.heap.push (newS w) } := by
    refine codeAny_call_builtin F.called_set.init.plain F.entry_set_init (check_set_init_1 ⟨_, hS, rfl⟩ ?_)
    exact init_okT (T := T) ks hh hl hit hk hfew hu fun h' tk L es ep t b1 b2 b3 => ⟨rfl, h', tk, L, es, ep, t, rfl, b1, b2, b3⟩
  refine wpAny_call (codeAny_of_tree ?_)
  show wpAny _ _ (callAny (.type "set") _) _ _ _
  refine wpAny_pure ⟨Code.quiet_builtin _ (by decide +kernel), codeAny_builtin F.entry_type_call ?_⟩
  rw [Around.under_plain (weight_type_call_type "set" [.ref l] []) rfl]
  repeat (any_goals (first | assumption | wp_step))
  refine codeAny_mono (code_set_led1 (.ref l) (E := E) (Q₁ := fun obj s₁ => obj = .ref s.heap.objs.size ∧ s₁ = { s with heap := s.heap.push (newS w) }) ⟨rfl, rfl⟩) fun r s₁ hr => ?_
  match r, hr with
  | .error e, hr => exact hr
  | .ok (.ret obj), hr =>
    obtain ⟨rfl, rfl⟩ := hr
    have w7 : Shared.TypeIs { s with heap := s.heap.push (newS w) } (.ref s.heap.objs.size) "set" := ⟨_, hS, rfl⟩
    have w8 := F.called_set.init.lookup
    have w9 := F.called_set.init.bind (.ref s.heap.objs.size)
    repeat (any_goals (first | assumption | wp_step))
    refine codeAny_mono back fun r₂ s₂ hr₂ => ?_
    match r₂, hr₂ with
    | .error e, hr₂ => exact hr₂
    | .ok (.ret z), hr₂ =>
      obtain ⟨rfl, h', tk, L, es, ep, t, rfl, b1, b2, b3⟩ := hr₂
      repeat (any_goals (first | assumption | wp_step))
      exact h _ _ _ _ _ _ b1 b2 b3
    | .ok .next, hr₂ => exact hr₂.elim
    | .ok .brk, hr₂ => exact hr₂.elim
    | .ok .cont, hr₂ => exact hr₂.elim
  | .ok .next, hr => exact hr.elim
  | .ok .brk, hr => exact hr.elim
  | .ok .cont, hr => exact hr.elim
end
end DS
namespace DS
open PySem PySem.Spec PyProof.Rows L2
section
variable {P : Program} {w : World} {A : Around} {E : Value → Shared → Prop} {s : Shared}
/-- an int or a text -/
def flat1 : Value → Prop
  | .int _ _ => True
  | .str _ _ => True
  | _ => False
theorem items_flat {k : List Key} {vs : List Value} (h : ItemsAre (mixKind P w) k vs) : ∀ v ∈ vs, flat1 v := bxU (by simp (disch := with_unfolding_all
  induction h with
  | nil => intro v hv; cases hv
  | @cons k0 v' ks vs h1 _ ih =>
    intro v hv
    rcases List.mem_cons.mp hv with e | hv
    · subst e
      rcases keyIs_shape h1 with ⟨i, t, _, rfl⟩ | ⟨x, t, _, rfl⟩ <;> trivial
    · exact ih v hv) only [bxI])
theorem noClass (n : Nat) {v : Value} (h : flat1 v) : ofAClassStatement n v = pure false := bxU (by simp (disch := with_unfolding_all
  cases v <;> first | exact h.elim | (cases n <;> rfl)) only [bxI])
theorem byV (n : Nat) {v : Value} (h : flat1 v) : ∃ b, hashByValue n v = pure b := bxU (by simp (disch := with_unfolding_all
  cases v with
  | int i t => refine ⟨true, ?_⟩; cases n <;> rfl
  | str x t => refine ⟨false, ?_⟩; cases n <;> rfl
  | _ => exact h.elim) only [bxI])
abbrev IsM (P : Program) (w : World) (h : Heap) (k : List Key) (a : Addr) : Prop := IsTupleKey (mixKind P w) h k a
theorem noClassT {k : List Key} {b : Addr} {Q : Bool → Shared → Prop} (hk : IsM P w s.heap k b) (h : Q false s) : wpAny (model P w) A (ofAClassStatement 8 (.ref b)) Q E s := bxU (by simp (disch := with_unfolding_all
  have ty := hk.typeIs
  obtain ⟨o, items, n, ho, _, hd, hi⟩ := hk
  unfold ofAClassStatement
  refine wpAny_bind (wpAny_typeOf ty ?_)
  simp only [show (("tuple" : String) == "tuple") = true by decide, if_true, Bool.not_true, Bool.false_eq_true, if_false]
  try refine wpAny_bind (wpAny_pure ?_)
  try simp only [Bool.not_true, Bool.false_eq_true, if_false]
  show wpAny _ _ (seqItems? (.ref b) >>= _) _ _ s
  refine wpAny_bind (wpAny_seqItems ho hd (wpAny_bind ?_))
  show wpAny _ _ (forIn items _ _) _ _ s
  rw [← Array.forIn_toList]
  refine wpAny_forIn_list _ (fun rest r s' => r.1 = none ∧ s' = s ∧ ∀ v ∈ rest, flat1 v) _ ?_ ?_ _ _ ⟨rfl, rfl, items_flat hi⟩
  · rintro v rest r s' ⟨hr, rfl, all⟩
    rw [noClass _ (all v List.mem_cons_self)]
    refine wpAny_bind (wpAny_pure ?_)
    simp only [Bool.false_eq_true, if_false]
    exact wpAny_pure ⟨rfl, rfl, fun u m => all u (List.mem_cons_of_mem _ m)⟩
  · rintro ⟨r1, r2⟩ s' ⟨hr, rfl, _⟩
    cases (show r1 = none from hr)
    exact wpAny_pure h) only [bxI])
theorem byVT {k : List Key} {b : Addr} {Q : Bool → Shared → Prop} (hk : IsM P w s.heap k b) (h : ∀ c, Q c s) : wpAny (model P w) A (hashByValue 8 (.ref b)) Q E s := bxU (by simp (disch := with_unfolding_all
  have ty := hk.typeIs
  obtain ⟨o, items, n, ho, _, hd, hi⟩ := hk
  unfold hashByValue
  refine wpAny_bind (wpAny_specialOf ty F.slot_tuple_hash.lookup ?_)
  show wpAny _ _ (seqItems? (.ref b) >>= _) _ _ s
  refine wpAny_bind (wpAny_seqItems ho hd (wpAny_bind ?_))
  show wpAny _ _ (forIn items _ _) _ _ s
  rw [← Array.forIn_toList]
  refine wpAny_forIn_list _ (fun rest r s' => s' = s ∧ ∀ v ∈ rest, flat1 v) _ ?_ ?_ _ _ ⟨rfl, items_flat hi⟩
  · rintro v rest r s' ⟨rfl, all⟩
    obtain ⟨c, ec⟩ := byV 7 (all v List.mem_cons_self)
    rw [ec]
    refine wpAny_bind (wpAny_pure ?_)
    cases c with
    | true =>
      simp only [Bool.not_true, Bool.false_eq_true, if_false]
      exact wpAny_pure ⟨rfl, fun u m => all u (List.mem_cons_of_mem _ m)⟩
    | false =>
      simp only [Bool.not_false, if_true]
      exact wpAny_pure (wpAny_pure (h false))
  · rintro ⟨r1, r2⟩ s' ⟨rfl, _⟩
    cases r1 with
    | none => exact wpAny_pure (h true)
    | some c => exact wpAny_pure (h c)) only [bxI])
theorem seenT {k : List Key} {b : Addr} {ys : List Value} {Q : Bool → Shared → Prop} (hk : IsM P w s.heap k b) (hy : ∀ y ∈ ys, ∃ l c, y = Value.ref c ∧ IsM P w s.heap l c) (h : Q false s) : wpAny (model P w) A (searchCouldBeSeen (.ref b) ys) Q E s := bxU (by simp (disch := with_unfolding_all
  unfold searchCouldBeSeen
  refine wpAny_bind ?_
  refine wpAny_forIn_list _ (fun rest r s' => r.1 = none ∧ s' = s ∧ ∀ y ∈ rest, ∃ l c, y = Value.ref c ∧ IsM P w s.heap l c) _ ?_ ?_ _ _ ⟨rfl, rfl, hy⟩
  · rintro v rest r s' ⟨hr, rfl, all⟩
    obtain ⟨l, c, rfl, hc⟩ := all v List.mem_cons_self
    have more : ∀ y ∈ rest, ∃ l c, y = Value.ref c ∧ IsM P w s'.heap l c := fun u m => all u (List.mem_cons_of_mem _ m)
    dsimp only
    by_cases hv : (b == c || (carriedByValue (.ref b) && carriedByValue (.ref c))) = true
    · exact wp_if_pos hv (wpAny_pure ⟨rfl, rfl, more⟩)
    · refine wp_if_neg hv (wpAny_bind (wpAny_eqIsQuiet_tuple hk ?_))
      simp only [Bool.not_true, Bool.false_eq_true, if_false]
      refine wpAny_bind (wpAny_eqIsQuiet_tuple hc ?_)
      simp only [Bool.not_true, Bool.false_eq_true, if_false]
      refine wpAny_bind (noClassT hk ?_)
      simp only [Bool.false_eq_true, if_false]
      refine wpAny_bind (noClassT hc ?_)
      simp only [Bool.false_eq_true, if_false]
      exact wpAny_pure ⟨rfl, rfl, more⟩
  · rintro ⟨r1, r2⟩ s' ⟨hr, rfl, _⟩
    cases (show r1 = none from hr)
    exact wpAny_pure h) only [bxI])
/-- tuples of ints and texts -/
def mixE (P : Program) (w : World) : EltH P w (List Key) where
  is := IsM P w
  hash := tupleKeyHash (mixKind P w)
  eq := fun hu hx hy q => wpAny_eqBool_tuple hu hx hy q
  seen := fun hx hy q => seenT hx hy q
  off := by
    rintro h h' k a b o es ep t ⟨o', items, n, ho', hc, hd', hi⟩ ho hd sb
    have ne : b ≠ a := by
      rintro rfl
      rw [ho'] at ho
      cases ho
      rw [hd] at hd'
      cases hd'
    exact ⟨o', items, n, (sb.2 b ne).trans ho', hc, hd', hi⟩
  byVal := fun hx q => byVT hx q
  up := by
    rintro h h' k b ⟨o, items, n, ho, r⟩ kp
    exact ⟨o, items, n, kp b o ho, r⟩
  hsh := fun hu hx q => wpAny_pyHash_tuple hu hx (q _ (Nat.le_add_right _ _))
end
end DS
namespace DS
open PySem PySem.Spec PyProof.Rows L2 SrtO
abbrev Pr : Type := Int × Str
/-- by the int, then by the text's signs -/
def ltM (p q : Pr) : Bool := if p.1 = q.1 then decide (p.2.cps.toList < q.2.cps.toList) else decide (p.1 < q.1)
theorem ltM_iff {p q : Pr} : ltM p q = true ↔ p.1 < q.1 ∨ (p.1 = q.1 ∧ p.2.cps.toList < q.2.cps.toList) := bxU (by simp (disch := with_unfolding_all
  unfold ltM
  split
  · rename_i e
    simp [e]
  · rename_i e
    rw [decide_eq_true_eq]
    constructor
    · exact .inl
    · rintro (h | h)
      · exact h
      · exact absurd h.1 e) only [bxI])
theorem nat_asym {x y : List Nat} (h : x < y) : ¬ y < x := fun z => List.lt_irrefl x (List.lt_trans h z)
theorem nat_tri (x y : List Nat) : x < y ∨ x = y ∨ y < x := bxU (by simp (disch := with_unfolding_all
  by_cases h1 : x < y
  · exact .inl h1
  · by_cases h2 : y < x
    · exact .inr (.inr h2)
    · exact .inr (.inl (List.le_antisymm (List.not_lt.mp h2) (List.not_lt.mp h1)))) only [bxI])
theorem ltM_asym {p q : Pr} (h : ltM p q = true) : ltM q p = false := bxU (by simp (disch := with_unfolding_all
  cases e : ltM q p with
  | false => rfl
  | true =>
    rcases ltM_iff.mp h with a | a <;> rcases ltM_iff.mp e with b | b
    · omega
    · omega
    · omega
    · exact absurd b.2 (nat_asym a.2)) only [bxI])
theorem ltM_tri {p q : Pr} : ltM p q = true ∨ p = q ∨ ltM q p = true := bxU (by simp (disch := with_unfolding_all
  rcases Int.lt_trichotomy p.1 q.1 with h | h | h
  · exact .inl (ltM_iff.mpr (.inl h))
  · rcases nat_tri p.2.cps.toList q.2.cps.toList with g | g | g
    · exact .inl (ltM_iff.mpr (.inr ⟨h, g⟩))
    · refine .inr (.inl (Prod.ext h ?_))
      have : p.2.cps = q.2.cps := Array.toList_inj.mp g
      cases hp : p.2; cases hq : q.2
      rw [hp, hq] at this
      simp only at this
      rw [this]
    · exact .inr (.inr (ltM_iff.mpr (.inr ⟨h.symm, g⟩)))
  · exact .inr (.inr (ltM_iff.mpr (.inl h)))) only [bxI])
theorem ltM_trans {p q r : Pr} (h1 : ltM p q = true) (h2 : ltM q r = true) : ltM p r = true := bxU (by simp (disch := with_unfolding_all
  refine ltM_iff.mpr ?_
  rcases ltM_iff.mp h1 with a | a <;> rcases ltM_iff.mp h2 with b | b
  · left; omega
  · left; omega
  · left; omega
  · right; exact ⟨a.1.trans b.1, List.lt_trans a.2 b.2⟩) only [bxI])
theorem ltM_irr (p : Pr) : ltM p p = false := bxU (by simp (disch := with_unfolding_all
  cases e : ltM p p with
  | false => rfl
  | true => rw [ltM_asym e] at e; cases e) only [bxI])
theorem swoM : Swo ltM := bxU (by simp (disch := with_unfolding_all
  refine ⟨fun x y h => ltM_asym h, fun x y z h1 h2 => ?_⟩
  cases e : ltM z x with
  | false => rfl
  | true =>
    rcases ltM_tri (p := x) (q := y) with g | g | g
    · rw [ltM_trans e g] at h2; cases h2
    · subst g; rw [e] at h2; cases h2
    · rw [g] at h1; cases h1) only [bxI])
theorem swoK {α : Type} (k : α → Pr) : Swo fun v u => ltM (k v) (k u) := ⟨fun x y => swoM.asym (k x) (k y), fun x y z => swoM.tr (k x) (k y) (k z)⟩
def IsMix (h : Heap) (v : Value) (p : Pr) : Prop := ∃ a o t u n, v = .ref a ∧ h.get? a = some o ∧ o.cls = .type "tuple" ∧ o.data = .seq #[.int p.1 t, .str p.2 u] n
theorem IsMix.up {h h' : Heap} {v : Value} {p : Pr} (m : IsMix h v p) (k : ∀ b o, h.get? b = some o → o.cls = .type "tuple" → h'.get? b = some o) : IsMix h' v p := bxU (by simp (disch := with_unfolding_all
  obtain ⟨a, o, t, u, n, e, ho, r⟩ := m
  exact ⟨a, o, t, u, n, e, k a o ho r.1, r⟩) only [bxI])
theorem heads {h : Heap} : ∀ {vs : List Value}, (∀ v ∈ vs, ∃ p, IsMix h v p) → ∃ fs : List Value, PySem.W.KatTups h vs fs ∧ fs.length = vs.length ∧ ∀ f ∈ fs, ∃ x t, f = Value.int x t
  | [], _ => ⟨[], .nil, rfl, fun f m => by cases m⟩
  | v :: vs, hm => by
    obtain ⟨fs, k, hl, hi⟩ := heads (vs := vs) fun u hu => hm u (List.mem_cons_of_mem _ hu)
    obtain ⟨p, a, o, t, u, n, rfl, ho, hc, hd⟩ := hm v List.mem_cons_self
    refine ⟨.int p.1 t :: fs, .cons ho hc hd rfl k, by simp [hl], fun f hf => ?_⟩
    rcases List.mem_cons.mp hf with rfl | hf
    · exact ⟨_, _, rfl⟩
    · exact hi f hf
section
variable {prog : Program} {w : World} {A : Around} {E : Value → Shared → Prop} {s : Shared}
theorem mixCmp {vs : List Value} {k : Value → Pr} (hp : ∀ v ∈ vs, IsMix s.heap v (k v)) : SrtO.Cmp prog w A s (tuples' true) (fun p => p.1 ∈ vs) (lt2 fun v u => ltM (k v) (k u)) := by
  intro p q hm hm'
  obtain ⟨a, o, t, u, n, e, ho, hc, hd⟩ := hp _ hm
  obtain ⟨a', o', t', u', n', e', ho', hc', hd'⟩ := hp _ hm'
  show wpAny (model prog w) A (keyLt' (tuples' true) p.1 q.1) (fun r s' => s' = s ∧ r = ltM (k p.1) (k q.1)) (fun _ _ => False) s
  generalize k p.1 = x at hd ⊢
  generalize k q.1 = y at hd' ⊢
  rw [e, e']
  refine PySem.W.kat_lt ho hd ho' hd' ?_
  show PySem.W.KatLex prog w A true (decide (2 < 2)) _ [(.int x.1 t, .int y.1 t'), (.str x.2 u, .str y.2 u')] 0 s
  refine PySem.W.kat_cons (SeqAt.EqAt.int_int x.1 t y.1 t' prog w _ _ ?_)
  refine PySem.W.kat_go (fun e1 => ?_) (fun e1 => ?_)
  · have ex : x.1 = y.1 := by simpa using e1
    refine PySem.W.kat_yes (PySem.W.kat_cons (SeqAt.EqAt.str_str x.2 u y.2 u' prog w _ _ ?_))
    refine PySem.W.kat_go (fun e2 => ?_) (fun e2 => ?_)
    · have ey : x.2 = y.2 := by simpa using e2
      have e3 : ltM x y = false := by rw [show x = y from Prod.ext ex ey]; exact ltM_irr y
      exact PySem.W.kat_yes (PySem.W.kat_nil ⟨rfl, e3.symm⟩)
    · have e3 : ltM x y = decide (x.2.cps.toList < y.2.cps.toList) := by unfold ltM; rw [if_pos ex]
      refine PySem.W.kat_no (PyProof.Rows.oneLt_any_str ?_)
      exact ⟨rfl, e3.symm⟩
  · have ex : ¬ x.1 = y.1 := by simpa using e1
    have e3 : ltM x y = decide (x.1 < y.1) := by unfold ltM; rw [if_neg ex]
    exact PySem.W.kat_no (oneLt_int ⟨rfl, e3.symm⟩)
theorem mixSortable {a : Addr} {vs : List Value} {k : Value → Pr} (h0 : 0 < vs.length) (hp : ∀ v ∈ vs, IsMix s.heap v (k v)) (ha : ∀ o, s.heap.get? a = some o → o.cls ≠ .type "tuple") : SortableO prog w A s a vs fun v u => ltM (k v) (k u) := by
  intro h' kp
  have hp' : ∀ v ∈ vs, IsMix h' v (k v) := fun v hm => (hp v hm).up fun b o e c => kp b o (fun z => by subst z; exact ha o e c) e
  obtain ⟨fs, h1, h2, h3⟩ := heads fun v hm => ⟨_, hp' v hm⟩
  refine ⟨tuples' true, fun Q E hq => ?_, mixCmp hp'⟩
  refine PySem.W.kat_kind (T := .type "int") h1 (by omega) (fun f hm => ?_) rfl ?_
  · obtain ⟨x, t, rfl⟩ := h3 f hm
    exact PySem.W.Looks.now
  · rw [show (Value.type "int" != Value.type "tuple") = true by decide +kernel]
    exact hq
/-- sorted(xs), xs a list -/
theorem sortedMix {l : Addr} {vs : List Value} {k : Value → Pr} {Q : Value → Shared → Prop} (hl : s.heap.IsList l vs.toArray) (hz : vs.length ≤ sizeLine) (hp : ∀ v ∈ vs, IsMix s.heap v (k v))
    (h : ∀ (h' : Heap) (d : Addr) (out : List Value), Srtd (fun v u => ltM (k v) (k u)) out → out.Perm vs → (∀ b o, s.heap.get? b = some o → h'.get? b = some o) → s.heap.objs.size ≤ d → (∃ n, h'.get? d = some (seqObj "list" out.toArray n)) → Q (.ref d) { s with heap := h' }) :
    wpAny (model prog w) A (call (.builtin "sorted") [.ref l]) Q E s := bxU (by simp (disch := with_unfolding_all
  refine sorted_ord (swoK k) hl hz (fun h2 h1 a ha kk => ?_) fun out hs hb => ?_
  · refine mixSortable (s := { s with heap := h1 }) (by omega) (fun v hm => (hp v hm).up fun b o e _ => (kk b o e).2) fun o e => ?_
    have e' : some o = some (seqObj "list" vs.toArray 0) := e.symm.trans ha
    cases e'
    exact fun c => absurd (Value.type.inj c) (by decide)
  · exact h _ _ out hs hb.perm (fun b o e => sortedAll_old e) (Nat.le_succ _) (sortedAll_at s.heap vs out.toArray)) only [bxI])
/-- sorted(set) -/
theorem sortedSet {T : EltH prog w (List Key)} {a : Addr} {L : List (Addr × List Key)} {es : Array (Int × Value)} {ep : Nat} {t : SetTable} {k : Value → Pr} {Q : Value → Shared → Prop} (R : SetG T.toElt s.heap a L es ep t) (hh : A.handled = none)
    (hp : ∀ p ∈ L, IsMix s.heap (.ref p.1) (k (.ref p.1)))
    (hQ : ∀ s' p (out : List Value) (c : Nat), (∀ b o, s.heap.get? b = some o → s'.heap.get? b = some o) → s'.gens = s.gens → s'.os = s.os → s.heap.objs.size ≤ p →
      s'.heap.get? p = some (seqObj "list" out.toArray c) → Srtd (fun v u => ltM (k v) (k u)) out → out.Perm (L.map fun q => Value.ref q.1) → Q (.ref p) s') :
    wpAny (model prog w) A (call (.builtin "sorted") [.ref a]) Q E s := bxU (by simp (disch := with_unfolding_all
  obtain ⟨o, ho, hex, hd⟩ := R.ob
  have hsz := R.size
  have hfew := R.few
  refine Calls.call_function_entry kind_sorted plain_sorted entry_sorted (args_sorted1 (.ref a)) ?_
  unfold Builtin.«sorted»
  refine wpAny_bind (m := checkCount "sorted" 1 1 (_)) (wpAny_pure ?_)
  refine wpAny_bind (collect_set (A := A.in1) hh ⟨o, ho, hex.1, hd⟩ R.fits (by unfold scanBound; omega) R.tab.ris R.led fun s1 vs k1 hz g1 o1 pm => ?_)
  rw [R.rows] at pm
  have pm' : vs.Perm (L.map fun q => Value.ref q.1) := by
    have e : (rws T.toElt L).map (·.2) = L.map fun q => Value.ref q.1 := by unfold rws; rw [List.map_map]; rfl
    rw [e] at pm; exact pm
  have hvl : vs.length < 1000 := by rw [pm'.length_eq, List.length_map]; exact hfew
  refine wpAny_bind (wpAny_newList ?_ (by rw [sizeLine_eq]; omega))
  have hoL : (s1.heap.push (seqObj "list" vs.toArray 0)).get? s1.heap.objs.size = some (seqObj "list" vs.toArray 0) := Heap.get?_push_size _ rfl
  have hm : ∀ v ∈ vs, IsMix (s1.heap.push (seqObj "list" vs.toArray 0)) v (k v) := fun v hv => by
    obtain ⟨q, hq, rfl⟩ := List.mem_map.mp (pm'.mem_iff.mp hv)
    exact (hp q hq).up fun b u e _ => Heap.get?_push_of_some _ (k1 b u e)
  refine wpAny_bind (wpAny_holding (wpAny_call_entry slot_list_sort ⟨_, hoL, rfl⟩ entry_list_sort (list_sort_ord (s := { s1 with heap := s1.heap.push (seqObj "list" vs.toArray 0) }) (swoK k) hoL (by rw [sizeLine_eq]; omega) (fun h2 => mixSortable (by omega) hm fun o e => ?_) fun out hs hb => ⟨_, rfl, ?_⟩) (args_list_sort _)))
  · have e' : some o = some (seqObj "list" vs.toArray 0) := e.symm.trans hoL
    cases e'
    exact fun c => absurd (Value.type.inj c) (by decide)
  · obtain ⟨c, hc⟩ := sortedHeap_at (vs := vs) (out := out.toArray) hoL
    refine wpAny_pure ⟨_, rfl, hQ _ s1.heap.objs.size out c (fun b u e => ?_) g1 o1 hz hc hs (hb.perm.trans pm')⟩
    have q := k1 b u e
    have hlt := Heap.lt_size q
    show (sortedHeap (s1.heap.push (seqObj "list" vs.toArray 0)) s1.heap.objs.size vs out.toArray).get? b = some u
    rw [sortedHeap_old (Nat.ne_of_lt hlt) (by rw [size_push']; exact Nat.lt_succ_of_lt hlt)]
    exact Heap.get?_push_of_some _ q) only [bxI])
end
end DS
namespace DS
open PySem PySem.Spec PyProof.Rows L2 SrtO
def keyP (p : Pr) : List Key := [.inl p.1, .inr p.2]
def unkey : List Key → Pr
  | [.inl i, .inr z] => (i, z)
  | _ => (0, "")
theorem unkey_keyP (p : Pr) : unkey (keyP p) = p := rfl
/-- x is the pair p -/
def PairAt (K : PySem.W.Frag) (H : Hp) (x : V) (p : Pr) : Prop := ∃ t, x = V.ref t ∧ SqT K H t [.int p.1, .str p.2]
theorem IsMix.one {h : Heap} {v : Value} {p q : Pr} (a : IsMix h v p) (b : IsMix h v q) : p = q := bxU (by simp (disch := with_unfolding_all
  obtain ⟨x, o, t, u, n, e, ho, hc, hd⟩ := a
  obtain ⟨x', o', t', u', n', e', ho', hc', hd'⟩ := b
  subst e
  cases e'
  rw [ho] at ho'
  cases ho'
  rw [hd] at hd'
  injection hd' with h1 h2
  have h3 := congrArg Array.toList h1
  simp only [List.cons.injEq, Value.int.injEq, Value.str.injEq] at h3
  exact Prod.ext h3.1.1 h3.2.1.1) only [bxI])
section
variable {X : Cx} {pins : List (Addr × Obj)} {σ : L2.St} {H : Hp} {s : Shared}
theorem mixOf (I : Inv X pins σ H s) {t : Addr} {p : Pr} (h : SqT X.K H t [.int p.1, .str p.2]) : IsMix s.heap (.ref t) p ∧ IsM X.prog X.w s.heap (keyP p) t := bxU (by simp (disch := with_unfolding_all
  obtain ⟨its, rv, ⟨o, ho, hc, n, hd⟩, _⟩ := I.tuple h
  cases rv with
  | cons r1 rv =>
    cases rv with
    | cons r2 rv =>
      cases rv
      obtain ⟨t1, rfl⟩ := r1
      obtain ⟨t2, rfl⟩ := r2
      exact ⟨⟨t, o, t1, t2, n, rfl, ho, hc, hd⟩, o, _, n, ho, hc, hd, .cons (kV_is (k := .inl p.1) ⟨t1, rfl⟩) (.cons (kV_is (k := .inr p.2) ⟨t2, rfl⟩) .nil)⟩) only [bxI])
/-- the pair that stands at v -/
noncomputable def prOf (h : Heap) (v : Value) : Pr := by
  classical
  exact if e : ∃ p, IsMix h v p then e.choose else (0, "")
theorem prOf_eq {h : Heap} {v : Value} {p : Pr} (m : IsMix h v p) : prOf h v = p := bxU (by simp (disch := with_unfolding_all
  have e : ∃ p, IsMix h v p := ⟨p, m⟩
  unfold prOf
  rw [dif_pos e]
  exact e.choose_spec.one m) only [bxI])
theorem paired_out {K : PySem.W.Frag} {h : Heap} {H : Hp} : ∀ {out : List Value}, (∀ v ∈ out, ∃ t, v = Value.ref t ∧ SqT K H t [.int (prOf h v).1, .str (prOf h v).2]) → Paired (PairAt K H) (out.map bkV) (out.map (prOf h))
  | [], _ => .nil
  | v :: out, hv => by
    obtain ⟨t, rfl, e⟩ := hv v List.mem_cons_self
    exact .cons ⟨t, rfl, e⟩ (paired_out fun u hu => hv u (List.mem_cons_of_mem _ hu))
theorem srt_map {h : Heap} {out : List Value} (z : Srtd (fun v u => ltM (prOf h v) (prOf h u)) out) : Srtd ltM (out.map (prOf h)) := List.pairwise_map.mpr z
/-- sorted(xs) -/
def rSortM (K : PySem.W.Frag) : List V → Hp → VK → Prop := fun vs H Q => ∃ (a : Addr) (xs : List V) (ps : List Pr), vs = [V.ref a] ∧ SqL K H a xs ∧ Paired (PairAt K H) xs ps ∧
  ∀ ys qs p, Paired (PairAt K H) ys qs → qs.Perm ps → Srtd ltM qs → H p = none → Q (.ref p) (upd H p (.lst ys))
theorem cr_sortM : CallR X (.builtin "sorted") (rSortM X.K) := by
  intro pins s σ H vs us Q I r h
  obtain ⟨a, xs, ps, rfl, hs, hx, q⟩ := h
  obtain ⟨its, rv, hl, hz⟩ := I.list hs
  rw [Vals.ref1 r]
  have key : ∀ {xs : List V} {ps : List Pr} {its : List Value}, Paired (PairAt X.K H) xs ps → Vals xs its → its.map (prOf s.heap) = ps ∧ ∀ v ∈ its, ∃ t, v = Value.ref t ∧ SqT X.K H t [.int (prOf s.heap v).1, .str (prOf s.heap v).2] := by
    intro xs ps its hx rv
    induction hx generalizing its with
    | nil => cases rv; exact ⟨rfl, fun v hv => by cases hv⟩
    | @cons x p xs ps h hx ih =>
      cases rv with
      | cons r1 rv =>
        obtain ⟨t, rfl, ht⟩ := h
        cases r1
        obtain ⟨e, g⟩ := ih rv
        have ep := prOf_eq (mixOf I ht).1
        refine ⟨by rw [List.map_cons, e, ep], fun v hv => ?_⟩
        rcases List.mem_cons.mp hv with rfl | hv
        · exact ⟨t, rfl, by rw [ep]; exact ht⟩
        · exact g v hv
  obtain ⟨e1, e2⟩ := key hx rv
  refine sortedMix (k := prOf s.heap) hl.isList (by rw [← rv.length]; exact hz) (fun v hv => ?_) fun h' d out h1 h2 kp hd hn => ?_
  · obtain ⟨t, rfl, ht⟩ := e2 v hv
    exact (mixOf I ht).1
  · have h3 : ∀ u ∈ out, ∃ t, u = Value.ref t ∧ SqT X.K H t [.int (prOf s.heap u).1, .str (prOf s.heap u).2] := fun u hu => e2 u (h2.mem_iff.mp hu)
    obtain ⟨n, hn⟩ := hn
    refine ⟨.ref d, upd H d (.lst (out.map bkV)), I.laid (t' := s.toks) kp hd ⟨?_, out, n, bkV_vals fun u hu => (h3 u hu).imp fun _ z => z.1, hn⟩, rfl, q _ _ d (paired_out h3) (by rw [← e1]; exact h2.map _) (srt_map h1) (I.hok.fresh hd)⟩
    rw [List.length_map, h2.length_eq, ← rv.length]
    exact hz
structure SetG0 (P : Program) (w : World) (h : Heap) (a : Addr) (L : List (Addr × List Key)) : Prop where
  ex : ∃ (es : Array (Int × Value)) (ep : Nat) (t : SetTable), (∃ o, h.get? a = some o ∧ o.ExactSet ∧ o.data = .set es ep t) ∧ es.toList = rws (mixE P w).toElt L ∧ TabG t (L.map fun p => (mixE P w).hash p.2) ∧ (L.map (·.2)).Nodup ∧
    (w.params.followText "set-order" = true ∨ t.led = true) ∧ L.length * 5 < t.mask * 3 ∧ L.length < 1000 ∧ (t.mask = 7 ∨ t.mask = 31 ∨ t.mask = 127 ∨ t.mask = 511 ∨ t.mask = 2047)
def SetGO (P : Program) (w : World) (a : Addr) (L : List (Addr × List Key)) : HO := .ext fun h => SetG0 P w h a L
theorem SetG.g0 {P : Program} {w : World} {h : Heap} {a : Addr} {L : List (Addr × List Key)} {es : Array (Int × Value)} {ep : Nat} {t : SetTable} (R : SetG (mixE P w).toElt h a L es ep t) : SetG0 P w h a L :=
  ⟨es, ep, t, R.ob, R.rows, R.tab, R.nd, R.led, R.room, R.few, R.low⟩
theorem SetG0.whole {P : Program} {w : World} {h : Heap} {a : Addr} {L : List (Addr × List Key)} (R : SetG0 P w h a L) (he : ∀ p ∈ L, (mixE P w).is h p.2 p.1) : ∃ es ep t, SetG (mixE P w).toElt h a L es ep t := bxU (by simp (disch := with_unfolding_all
  obtain ⟨es, ep, t, h1, h2, h3, h4, h5, h6, h7, h8⟩ := R.ex
  exact ⟨es, ep, t, ⟨h1, h2, h3, h4, he, h5, h6, h7, h8⟩⟩) only [bxI])
theorem setGO_ok {P : Program} {w : World} {H : Hp} {h : Heap} {a : Addr} {L : List (Addr × List Key)} (R : SetG0 P w h a L) : ObjOk P w H h a (SetGO P w a L) := bxU (by simp (disch := with_unfolding_all
  obtain ⟨es, ep, t, ⟨o, ho, r⟩, q⟩ := R.ex
  refine ⟨R, ⟨o, ho⟩, fun h1 h2 p k => ?_⟩
  obtain ⟨es', ep', t', ⟨o', ho', r'⟩, q'⟩ := SetG0.ex p
  exact ⟨es', ep', t', ⟨o', k o' ho', r'⟩, q'⟩) only [bxI])
def FewP (ps : List Pr) : Prop := ∃ U : List Pr, U.length < 1000 ∧ ∀ p ∈ ps, p ∈ U
theorem fewK_of {ps : List Pr} {ks : List (Addr × Pr)} (h : FewP ps) (e : ks.map (·.2) = ps) : FewK (ks.map fun p => (p.1, keyP p.2)) := bxU (by simp (disch := with_unfolding_all
  obtain ⟨U, h1, h2⟩ := h
  refine ⟨U.map keyP, by rw [List.length_map]; exact h1, fun z hz => ?_⟩
  obtain ⟨p, hp, rfl⟩ := List.mem_map.mp hz
  exact List.mem_map.mpr ⟨p.2, h2 _ (by rw [← e]; exact List.mem_map.mpr ⟨p, hp, rfl⟩), rfl⟩) only [bxI])
/-- set(x), x a list or a tuple -/
def rSetM (K : PySem.W.Frag) (P : Program) (w : World) : List V → Hp → VK → Prop := fun xs H Q => ∃ (l : Addr) (vs : List V) (ps : List Pr), xs = [V.ref l] ∧ (SqL K H l vs ∨ SqT K H l vs) ∧ Paired (PairAt K H) vs ps ∧ FewP ps ∧
  ∀ a L, H a = none → (∀ q ∈ L, q.2 = keyP (unkey q.2) ∧ unkey q.2 ∈ ps ∧ SqT K H q.1 [.int (unkey q.2).1, .str (unkey q.2).2]) → (∀ p ∈ ps, p ∈ L.map fun q => unkey q.2) → Q (.ref a) (upd H a (SetGO P w a L))
theorem adrs {K : PySem.W.Frag} {H : Hp} : ∀ {vs : List V} {ps : List Pr} {its : List Value}, Paired (PairAt K H) vs ps → Vals vs its → ∃ ks : List (Addr × Pr), its = ks.map (fun p => Value.ref p.1) ∧ ks.map (·.2) = ps ∧ ∀ p ∈ ks, SqT K H p.1 [.int p.2.1, .str p.2.2]
  | _, _, _, .nil, .nil => ⟨[], rfl, rfl, fun p hp => by cases hp⟩
  | _, p :: _, _, .cons h hx, .cons r1 rv => by
    obtain ⟨t, rfl, ht⟩ := h
    cases r1
    obtain ⟨ks, e1, e2, g⟩ := adrs hx rv
    refine ⟨(t, p) :: ks, by rw [e1]; rfl, by rw [List.map_cons, e2], fun q hq => ?_⟩
    rcases List.mem_cons.mp hq with rfl | hq
    · exact ht
    · exact g q hq
theorem cr_setM (hc : X.calm = true) (hu : X.A.units + 64 < cLine) : CallR X (.type "set") (rSetM X.K X.prog X.w) := by
  intro pins s σ H xs us Q I r h
  obtain ⟨l, vs, ps, rfl, hl, hx, hf, q⟩ := h
  rw [Vals.ref1 r]
  have hn : H s.heap.objs.size = none := I.hok.fresh (Nat.le_refl _)
  have fin : ∀ ks : List (Addr × Pr), ks.map (·.2) = ps → (∀ p ∈ ks, SqT X.K H p.1 [.int p.2.1, .str p.2.2]) → ∀ (h' : Heap) (tk : Nat) L es ep t, SetG (mixE X.prog X.w).toElt h' s.heap.objs.size L es ep t → Brought (ks.map fun p => (p.1, keyP p.2)) (ks.map fun p => (p.1, keyP p.2)).length L → (∀ b o, s.heap.get? b = some o → h'.get? b = some o) → EP X pins σ Q (.ref s.heap.objs.size) { s with heap := h', toks := tk } := by
    intro ks ek hk h' tk L es ep t R g k
    refine ⟨.ref s.heap.objs.size, upd H s.heap.objs.size (SetGO X.prog X.w s.heap.objs.size L), I.laid (t' := tk) k (Nat.le_refl _) (setGO_ok R.g0), rfl, q _ L hn (fun z hz => ?_) fun p hp => ?_⟩
    · have hz' := List.mem_of_mem_take (g.from_ z hz)
      obtain ⟨p, hp, rfl⟩ := List.mem_map.mp hz'
      refine ⟨rfl, ?_, hk p hp⟩
      show p.2 ∈ ps
      rw [← ek]; exact List.mem_map.mpr ⟨p, hp, rfl⟩
    · rw [← ek] at hp
      obtain ⟨p0, hp0, rfl⟩ := List.mem_map.mp hp
      have := g.all (p0.1, keyP p0.2) (by rw [List.take_length]; exact List.mem_map.mpr ⟨p0, hp0, rfl⟩)
      obtain ⟨z, hz, e⟩ := List.mem_map.mp this
      exact List.mem_map.mpr ⟨z, hz, by rw [e]; exact unkey_keyP _⟩
  rcases hl with hl | hl
  · obtain ⟨its, rv, pl, hz⟩ := I.list hl
    obtain ⟨ks, e1, e2, hk⟩ := adrs hx rv
    have hlen := fewK_of hf e2
    refine setOfList (T := mixE X.prog X.w) (ks.map fun p => (p.1, keyP p.2)) (I.ok.hd hc) pl.isList (by rw [List.map_map, List.toList_toArray]; exact e1) (fun z hz => ?_) hlen (by omega) (fin ks e2 hk)
    obtain ⟨p, hp, rfl⟩ := List.mem_map.mp hz
    exact (mixOf I (hk p hp)).2
  · obtain ⟨its, rv, pl, hz⟩ := I.tuple hl
    obtain ⟨ks, e1, e2, hk⟩ := adrs hx rv
    have hlen := fewK_of hf e2
    refine setOfTup (T := mixE X.prog X.w) (ks.map fun p => (p.1, keyP p.2)) (I.ok.hd hc) pl (by rw [List.map_map, List.toList_toArray]; exact e1) (fun z hz => ?_) hlen (by omega) (fin ks e2 hk)
    obtain ⟨p, hp, rfl⟩ := List.mem_map.mp hz
    exact (mixOf I (hk p hp)).2
/-- sorted(set) -/
def rSortSet (K : PySem.W.Frag) (P : Program) (w : World) : List V → Hp → VK → Prop := fun vs H Q => ∃ (a : Addr) (L : List (Addr × List Key)), vs = [V.ref a] ∧ H a = some (SetGO P w a L) ∧ (∀ q ∈ L, q.2 = keyP (unkey q.2) ∧ SqT K H q.1 [.int (unkey q.2).1, .str (unkey q.2).2]) ∧
  ∀ ys qs p, Paired (PairAt K H) ys qs → qs.Perm (L.map fun q => unkey q.2) → qs.Nodup → Srtd ltM qs → H p = none → Q (.ref p) (upd H p (.lst ys))
theorem cr_sortSet (hc : X.calm = true) : CallR X (.builtin "sorted") (rSortSet X.K X.prog X.w) := by
  intro pins s σ H vs us Q I r h
  obtain ⟨a, L, rfl, ha, hk, q⟩ := h
  have R0 : SetG0 X.prog X.w s.heap a L := (I.hok a _ ha).1
  have hm : ∀ p ∈ L, IsMix s.heap (.ref p.1) (unkey p.2) := fun p hp => (mixOf I (hk p hp).2).1
  obtain ⟨es, ep, t, R⟩ := R0.whole fun p hp => by
    rw [(hk p hp).1]
    exact (mixOf I (hk p hp).2).2
  rw [Vals.ref1 r]
  refine sortedSet (k := prOf s.heap) R (I.ok.hd hc) (fun p hp => by rw [prOf_eq (hm p hp)]; exact hm p hp) fun s' p out c k g o hp hg hs pm => ?_
  have hin : ∀ v ∈ out, ∃ z ∈ L, v = Value.ref z.1 := fun v hv => by
    obtain ⟨z, hz, e⟩ := List.mem_map.mp (pm.mem_iff.mp hv)
    exact ⟨z, hz, e.symm⟩
  have h3 : ∀ v ∈ out, ∃ t, v = Value.ref t ∧ SqT X.K H t [.int (prOf s.heap v).1, .str (prOf s.heap v).2] := fun v hv => by
    obtain ⟨z, hz, rfl⟩ := hin v hv
    exact ⟨z.1, rfl, by rw [prOf_eq (hm z hz)]; exact (hk z hz).2⟩
  have hl : out.length = L.length := by rw [pm.length_eq, List.length_map]
  have hlen : (out.map bkV).length ≤ sizeLine := by rw [List.length_map, hl, sizeLine_eq]; have := R.few; omega
  have hn : H p = none := I.hok.fresh hp
  have J : Inv X pins σ (upd H p (.lst (out.map bkV))) { s with heap := s'.heap, gens := s'.gens, drawn := s'.drawn, toks := s'.toks } :=
    I.call (ch := []) (Un.laid k hp hn) (I.hok.laid k hp ⟨hlen, out, c, bkV_vals fun u hu => (h3 u hu).imp fun _ z => z.1, hg⟩) (by rw [g]; exact I.bare) (fun _ z => nomatch z)
  have e : s' = { s with heap := s'.heap, gens := s'.gens, drawn := s'.drawn, toks := s'.toks } := by
    obtain ⟨x1, x2, x3, x4, x5⟩ := s'
    obtain ⟨y1, y2, y3, y4, y5⟩ := s
    cases o
    rfl
  have pm2 : (out.map (prOf s.heap)).Perm (L.map fun z => unkey z.2) := by
    have h1 := pm.map (prOf s.heap)
    rw [List.map_map] at h1
    have h2 : L.map (prOf s.heap ∘ fun z => Value.ref z.1) = L.map fun z => unkey z.2 := List.map_congr_left fun z hz => prOf_eq (hm z hz)
    rw [h2] at h1
    exact h1
  have nd : (L.map fun z => unkey z.2).Nodup := by
    have h1 := R.nd
    refine List.pairwise_map.mpr (List.Pairwise.imp_of_mem (fun {x y} hx hy hne e => hne ?_) (List.pairwise_map.mp h1))
    rw [(hk x hx).1, (hk y hy).1, e]
  rw [e]
  exact ⟨.ref p, _, J, rfl, q _ _ p (paired_out h3) pm2 (pm2.nodup_iff.mpr nd) (srt_map hs) hn⟩
end
end DS
namespace DL
open PySem L2
open DS (Pr ltM PairAt ltM_tri ltM_trans ltM_irr ltM_asym swoM)
def pairD (p : Pr) : D := .tup [.int p.1, .str p.2]
abbrev leM (p q : Pr) : Bool := !ltM q p
theorem leM_trans (p q r : Pr) (h1 : leM p q = true) (h2 : leM q r = true) : leM p r = true := bxU (by simp (disch := with_unfolding_all
  have h1' : ltM q p = false := by simpa [leM] using h1
  have h2' : ltM r q = false := by simpa [leM] using h2
  have := swoM.tr p q r h1' h2'
  simp [leM, this]) only [bxI])
theorem leM_total (p q : Pr) : (leM p q || leM q p) = true := bxU (by simp (disch := with_unfolding_all
  cases h : ltM q p with
  | false => simp [leM, h]
  | true => simp [leM, ltM_asym h]) only [bxI])
theorem leM_anti {p q : Pr} (h1 : leM p q = true) (h2 : leM q p = true) : p = q := bxU (by simp (disch := with_unfolding_all
  rcases ltM_tri (p := p) (q := q) with h | h | h
  · simp [leM, h] at h2
  · exact h
  · simp [leM, h] at h1) only [bxI])
/-- sorted -/
def sortP (ps : List Pr) : List Pr := ps.mergeSort leM
theorem sortP_perm (ps : List Pr) : (sortP ps).Perm ps := List.mergeSort_perm ps _
theorem sortP_sorted (ps : List Pr) : (sortP ps).Pairwise (fun p q => leM p q = true) := List.pairwise_mergeSort leM_trans leM_total ps
theorem sorted_uniq : ∀ {l m : List Pr}, l.Pairwise (fun p q => leM p q = true) → m.Pairwise (fun p q => leM p q = true) → l.Perm m → l = m
  | [], m, _, _, p => by rw [p.nil_eq]
  | a :: l, m, hl, hm, p => by
    match m, p with
    | [], p => exact absurd p.length_eq (by simp)
    | b :: m, p =>
      have ab : a = b := by
        have h1 : a ∈ b :: m := p.mem_iff.mp List.mem_cons_self
        have h2 : b ∈ a :: l := p.mem_iff.mpr List.mem_cons_self
        rcases List.mem_cons.mp h1 with e | h1
        · exact e
        · rcases List.mem_cons.mp h2 with e | h2
          · exact e.symm
          · exact leM_anti ((List.pairwise_cons.mp hl).1 b h2) ((List.pairwise_cons.mp hm).1 a h1)
      subst ab
      rw [sorted_uniq (List.pairwise_cons.mp hl).2 (List.pairwise_cons.mp hm).2 (List.perm_cons a |>.mp p)]
/-- ascending, each once -/
def AscP (ps : List Pr) : Prop := ps.Pairwise fun p q => ltM p q = true
def ascP (ps : List Pr) : List Pr := sortP ps.eraseDups
theorem AscP.nodup {ps : List Pr} (h : AscP ps) : ps.Nodup := List.Pairwise.imp (fun {p q} h e => by subst e; rw [ltM_irr] at h; cases h) h
theorem AscP.le {ps : List Pr} (h : AscP ps) : ps.Pairwise fun p q => leM p q = true := bxU (by simp (disch := with_unfolding_all
  exact List.Pairwise.imp (fun {p q} h => by simp [leM, ltM_asym h]) h) only [bxI])
theorem asc_of {ps : List Pr} (h1 : ps.Pairwise fun p q => leM p q = true) (h2 : ps.Nodup) : AscP ps := by
  refine (List.Pairwise.and h1 h2).imp fun {p q} ⟨h, hne⟩ => ?_
  rcases ltM_tri (p := p) (q := q) with g | g | g
  · exact g
  · exact absurd g hne
  · simp [leM, g] at h
theorem nodup_eraseDups (ps : List Pr) : ps.eraseDups.Nodup := bxU (by simp (disch := with_unfolding_all
  induction h : ps.length using Nat.strongRecOn generalizing ps with
  | ind n ih =>
    match ps with
    | [] => simp
    | p :: ps =>
      rw [List.eraseDups_cons]
      refine List.nodup_cons.mpr ⟨?_, ih _ ?_ _ rfl⟩
      · simp [List.mem_eraseDups]
      · rw [← h, List.length_cons]
        exact Nat.lt_succ_of_le (List.length_filter_le _ _)) only [bxI])
theorem ascP_asc (ps : List Pr) : AscP (ascP ps) := asc_of (sortP_sorted _) ((sortP_perm _).nodup_iff.mpr (nodup_eraseDups ps))
theorem mem_ascP {ps : List Pr} {p : Pr} : p ∈ ascP ps ↔ p ∈ ps := bxU (by simp (disch := with_unfolding_all
  unfold ascP
  rw [(sortP_perm _).mem_iff, List.mem_eraseDups]) only [bxI])
theorem asc_ext {l m : List Pr} (hl : AscP l) (hm : AscP m) (h : ∀ p, p ∈ l ↔ p ∈ m) : l = m :=
  sorted_uniq hl.le hm.le ((List.perm_ext_iff_of_nodup hl.nodup hm.nodup).mpr h)
theorem ascP_ext {l m : List Pr} (h : ∀ p, p ∈ l ↔ p ∈ m) : ascP l = ascP m := bxU (by simp (disch := with_unfolding_all
  exact asc_ext (ascP_asc l) (ascP_asc m) fun p => by rw [mem_ascP, mem_ascP]; exact h p) only [bxI])
theorem AscP.filter {l : List Pr} (h : AscP l) (f : Pr → Bool) : AscP (l.filter f) := List.Pairwise.filter f h
theorem ascP_len (ps : List Pr) : (ascP ps).length ≤ ps.length := bxU (by simp (disch := with_unfolding_all
  have h : ∀ (n : Nat) (ps : List Pr), ps.length = n → ps.eraseDups.length ≤ ps.length := by
    intro n
    induction n using Nat.strongRecOn with
    | ind n ih =>
      intro ps h
      match ps with
      | [] => simp
      | p :: ps =>
        rw [List.eraseDups_cons, List.length_cons, List.length_cons]
        have h1 := List.length_filter_le (fun b => !b == p) ps
        have h2 := ih (ps.filter fun b => !b == p).length (by rw [← h, List.length_cons]; omega) _ rfl
        omega
  unfold ascP
  rw [(sortP_perm _).length_eq]
  exact h _ ps rfl) only [bxI])
theorem sortP_nodup {ps : List Pr} (h : ps.Nodup) : sortP ps = ascP ps := bxU (by simp (disch := with_unfolding_all
  refine sorted_uniq (sortP_sorted ps) (ascP_asc ps).le ?_
  refine (sortP_perm ps).trans ((List.perm_ext_iff_of_nodup h (ascP_asc ps).nodup).mpr fun p => ?_)
  rw [mem_ascP]) only [bxI])
section
variable {nf : NFs} {K : PySem.W.Frag}
theorem rels_pairs {H : Hp} : ∀ {vs : List V} {ps : List Pr}, Rels K nf H vs (ps.map pairD) → Paired (PairAt K H) vs ps
  | _, [], .nil => .nil
  | _, p :: ps, .cons h r => by
    cases h with
    | tup hs rr =>
      cases rr with
      | cons r1 rr =>
        cases rr with
        | cons r2 rr =>
          cases rr
          have e1 := rel_int r1
          have e2 := rel_str r2
          subst e1 e2
          exact .cons ⟨_, rfl, hs⟩ (rels_pairs r)
theorem pairs_rels {H : Hp} : ∀ {vs : List V} {ps : List Pr}, Paired (PairAt K H) vs ps → Rels K nf H vs (ps.map pairD)
  | _, _, .nil => .nil
  | _, _, .cons ⟨t, e, hs⟩ r => by
    subst e
    exact .cons (.tup hs (.cons (.int _) (.cons (.str _) .nil))) (pairs_rels r)
variable [Anch nf] {X : Cx} {e : Expr} {p p2 pos pos2 : Pos} {ra : DAs nf}
/-- sorted(xs) -/
def dSortM (ra : DAs nf) : DT nf := fun env Q => ra env fun ds env1 => ∃ ps : List Pr, ds = [.lst (ps.map pairD)] ∧ Q (.lst ((sortP ps).map pairD)) env1
theorem de_sortM (hg : Gl X "sorted") (hm : X.mg "sorted" = none) (ha : DA X nf [e] ra) (he : starEach [e] X.env = (false, eval e X.env) :: starEach [] X.env := by rfl) (hpl : (backTo pos (starEach [] X.env)).any (·.1) = false := by rfl) : DE X nf (.Call (.Name "sorted" p) [e] [] pos) (dSortM ra) :=
  pe_imp (pe_fz (pe_callB DS.cr_sortM hg hm (by decide +kernel) ha (by decide) (by decide) he hpl)) fun σ H Q ⟨env, fp, Qd, R, h, k⟩ => ⟨env, fp, _, R, h, fun vs H1 ds env1 fp1 r1 R1 c1 ⟨ps, e, q⟩ => by
    subst e
    obtain ⟨v, rfl, hr⟩ := rels1x r1
    cases hr with
    | @lst a ws _ hz rr =>
      refine ⟨a, ws, ps, rfl, hz.sq, rels_pairs rr, fun ys qs p hP hp hs hn => ⟨p, _, rfl, upd_same, trivial, fun o => ?_⟩⟩
      have eq : qs = sortP ps := sorted_uniq (hs.imp fun {p q} h => by simp [leM, h]) (sortP_sorted ps) (hp.trans (sortP_perm ps).symm)
      subst eq
      have x : Xt H1 (upd (upd H1 p (.lst ys)) p (.frz o (.lst ys))) := xt_fz (Xt.new hn) hn
      exact k _ _ _ env1 fp1 (.lst ⟨o, upd_same⟩ ((pairs_rels hP).mono x.stp)) (R1.ext x) (c1.trans x.ch) q⟩
/-- sorted(set(xs)) -/
def dSortSet (ra : DAs nf) : DT nf := fun env Q => ra env fun ds env1 => ∃ ps : List Pr, (ds = [.lst (ps.map pairD)] ∨ ds = [.tup (ps.map pairD)]) ∧ DS.FewP ps ∧ Q (.lst ((ascP ps).map pairD)) env1
theorem de_sortSet (hc : X.calm = true) (hu : X.A.units + 64 < cLine) (hg : Gl X "sorted") (hm : X.mg "sorted" = none) (hg2 : Gl X "set") (hm2 : X.mg "set" = none) (ha : DA X nf [e] ra)
    (he : starEach [e] X.env = (false, eval e X.env) :: starEach [] X.env := by rfl) (hpl : (backTo pos2 (starEach [] X.env)).any (·.1) = false := by rfl)
    (he2 : starEach [.Call (.Name "set" p2) [e] [] pos2] X.env = (false, eval (.Call (.Name "set" p2) [e] [] pos2) X.env) :: starEach [] X.env := by rfl) (hpl2 : (backTo pos (starEach [] X.env)).any (·.1) = false := by rfl) :
    DE X nf (.Call (.Name "sorted" p) [.Call (.Name "set" p2) [e] [] pos2] [] pos) (dSortSet ra) :=
  pe_imp (pe_fz (pe_callB (DS.cr_sortSet hc) hg hm (by decide +kernel) (pa_cons (pe_callTy (DS.cr_setM hc hu) hg2 hm2 (by decide +kernel) ha (by decide) (by decide) he hpl) pa_nil) (by decide) (by decide) he2 hpl2)) fun σ H Q ⟨env, fp, Qd, R, h, k⟩ => ⟨env, fp, _, R, h, fun vs H1 ds env1 fp1 r1 R1 c1 ⟨ps, e, hl, q⟩ => by
    obtain ⟨l, ws, ev, hs, hP⟩ : ∃ (l : Addr) (ws : List V), vs = [V.ref l] ∧ (SqL X.K H1 l ws ∨ SqT X.K H1 l ws) ∧ Paired (PairAt X.K H1) ws ps := by
      rcases e with rfl | rfl
      · obtain ⟨v, rfl, hr⟩ := rels1x r1
        cases hr with
        | @lst a ws _ hz rr => exact ⟨a, ws, rfl, .inl hz.sq, rels_pairs rr⟩
      · obtain ⟨v, rfl, hr⟩ := rels1x r1
        cases hr with
        | @tup a ws _ hz rr => exact ⟨a, ws, rfl, .inr hz, rels_pairs rr⟩
    subst ev
    refine ⟨l, ws, ps, rfl, hs, hP, hl, fun a L hn hL hA => ?_⟩
    have x1 : Xt H1 (upd H1 a (DS.SetGO X.prog X.w a L)) := Xt.new hn
    refine ⟨a, L, rfl, upd_same, fun z hz => ⟨(hL z hz).1, sqT_mono (nf := nf) x1.stp (hL z hz).2.2⟩, fun ys qs p hP hp hnd hs hn2 => ⟨p, _, rfl, upd_same, trivial, fun o => ?_⟩⟩
    have eq : qs = ascP ps := asc_ext (asc_of (hs.imp fun {p q} h => by simp [leM, h]) hnd) (ascP_asc ps) fun z => by
      rw [hp.mem_iff, mem_ascP]
      constructor
      · intro m
        obtain ⟨y, hy, rfl⟩ := List.mem_map.mp m
        exact (hL y hy).2.1
      · exact hA z
    subst eq
    have x2 := xt_fz (u := .lst ys) (o := o) (Xt.new (o := .lst ys) hn2) hn2
    have x := x1.trans x2
    exact k _ _ _ env1 fp1 (.lst ⟨o, upd_same⟩ ((pairs_rels hP).mono x2.stp)) (R1.ext x) (c1.trans x.ch) q⟩
end
end DL
namespace DL
open PySem L2
theorem u65 {k : Nat} {A : Around} (r : Room k A) : A.units + 65 < cLine := bxU (by simp (disch := with_unfolding_all (have := r.un; omega)) only [bxI])
section
variable {X : Cx} {nf : NFs} [Anch nf]
/-- one of two walks of what is evaluated once -/
def iEither (K : PySem.W.Frag) (tl : TE) : TI := fun σ H R => tl σ H fun x H1 => (∃ a, x = .ref a ∧ (∃ xs, SqL K H1 a xs) ∧ R (Itl K a) H1) ∨ (∃ a, x = .ref a ∧ (∃ xs, SqT K H1 a xs) ∧ R (Itt K a) H1)
theorem pi_either {tg l : Expr} {tl : TE} (hl : PE X l tl) : PI X tg l (iEither X.K tl) := bxU (by simp (disch := with_unfolding_all
  constructor
  intro pins s σ H R I h
  refine thn (hl.run pins s σ H _ I h) fun v s1 ⟨x, H1, I1, r1, q1⟩ => ?_
  have fp : ∀ b ∈ [s1.heap.objs.size], b = s1.heap.objs.size := fun b hb => List.mem_singleton.mp hb
  rcases q1 with ⟨a, rfl, ⟨xs, hq⟩, q⟩ | ⟨a, rfl, ⟨xs, hq⟩, q⟩
  · cases r1
    obtain ⟨its, rv, p, hz⟩ := I1.list hq
    refine wpAny_pyIter_list p.isList ⟨_, [s1.heap.objs.size], _, _, H1, rfl, I1.kept (t' := s1.toks) fun b o e => Heap.get?_push_of_some _ e, turn_list a _, ⟨_, Heap.get?_push_size _ rfl, rfl, rfl⟩, fun b hb => ?_, q⟩
    rw [fp b hb]
    exact I1.fpOk (Nat.le_refl _) (I1.hok.fresh (Nat.le_refl _))
  · cases r1
    obtain ⟨its, rv, p, hz⟩ := I1.tuple hq
    refine wpAny_pyIter_tuple (show s1.heap.IsTuple a its.toArray from p) ⟨_, [s1.heap.objs.size], _, _, H1, rfl, I1.kept (t' := s1.toks) fun b o e => Heap.get?_push_of_some _ e, turn_tuple a _, ⟨_, Heap.get?_push_size _ rfl, rfl, rfl⟩, fun b hb => ?_, q⟩
    rw [fp b hb]
    exact I1.fpOk (Nat.le_refl _) (I1.hok.fresh (Nat.le_refl _))) only [bxI])
def iQ (da : DT nf) : DAs nf := fun env Q => da env fun d env1 => ∃ xs, (d = .lst xs ∨ d = .tup xs) ∧ Q xs env1
theorem di_seq {tg l : Expr} {da : DT nf} (h : DE X nf l da) : DIo X nf tg l (iQ da) := bxU (by simp (disch := with_unfolding_all
  exact pi_imp (pi_either h) fun σ H R ⟨env, fp, Qd, R0, q, k⟩ =>
  lift_run R0 q fun v H1 d env1 fp1 r1 R1 c1 ⟨xs, e, q1⟩ => by
    rcases e with rfl | rfl
    · obtain ⟨a, vs, ev, hl, hs, rr⟩ := ls_of r1 (show lsOf (.lst xs) = some xs from rfl)
      subst ev
      refine .inl ⟨a, rfl, ⟨vs, hl⟩, k _ xs H1 env1 fp1 ⟨_, _, rr.length ▸ walk_list (xs := vs), fun H s => hs H s, fun i H x H2 hi s ⟨e2, y⟩ => ?_⟩ R1 c1 q1⟩
      subst e2
      obtain ⟨d, e3, r3⟩ := rr.getV y
      exact ⟨Xt.refl, d, e3, r3.mono s⟩
    · cases r1 with
      | @tup a vs _ hl rr =>
        refine .inr ⟨a, rfl, ⟨vs, hl⟩, k _ xs H1 env1 fp1 ⟨_, _, rr.length ▸ walk_tup (xs := vs), fun H s => sqT_mono s hl, fun i H x H2 hi s ⟨e2, y⟩ => ?_⟩ R1 c1 q1⟩
        subst e2
        obtain ⟨d, e3, r3⟩ := rr.getV y
        exact ⟨Xt.refl, d, e3, r3.mono s⟩) only [bxI])
end
section
variable {nf : NFs} {K : PySem.W.Frag} {De : EndsD nf} {env env' : EV nf} {i j : Nat} {d x y z : D} {da db : DT nf} {ra : DAs nf} {Q : D → EV nf → Prop} {QA : List D → EV nf → Prop}
def IqK (QA : List D → EV nf → Prop) : D → EV nf → Prop := fun d env1 => ∃ xs, (d = .lst xs ∨ d = .tup xs) ∧ QA xs env1
theorem iQ_s (h : da env (IqK QA)) : iQ da env QA := h
theorem isiTup_s {xs : List D} {T : String} {b : Bool} (e : kitB "tuple" T = some b) (h : Q (.bl b) env) : CbK (fIsi K) Q [.tup xs, .ty T] env := ⟨_, ⟨_, _, _, _, b, rfl, (fun C fs z => by cases z), rfl, rfl, e, rfl⟩, h⟩
theorem isiLst_s {xs : List D} {T : String} {b : Bool} (e : kitB "list" T = some b) (h : Q (.bl b) env) : CbK (fIsi K) Q [.lst xs, .ty T] env := ⟨_, ⟨_, _, _, _, b, rfl, (fun C fs z => by cases z), rfl, rfl, e, rfl⟩, h⟩
theorem isiLstC_s {xs : List D} {C : Addr} {b : Bool} (e : PySem.W.kitOne K (.type "list") (.ref C) = some b) (h : Q (.bl b) env) : CbK (fIsi K) Q [.lst xs, .cls C] env := ⟨_, ⟨_, _, _, _, b, rfl, (fun C fs z => by cases z), rfl, rfl, e, rfl⟩, h⟩
theorem isiTupC_s {xs : List D} {C : Addr} {b : Bool} (e : PySem.W.kitOne K (.type "tuple") (.ref C) = some b) (h : Q (.bl b) env) : CbK (fIsi K) Q [.tup xs, .cls C] env := ⟨_, ⟨_, _, _, _, b, rfl, (fun C fs z => by cases z), rfl, rfl, e, rfl⟩, h⟩
theorem kb7 : kitB "tuple" "tuple" = some true := by decide +kernel
theorem dCatT_s (h : dOp fCatT da db env Q) : dCatT da db env Q := h
theorem catT_s {xs ys : List D} (hl : xs.length + ys.length ≤ 1000000) (h : Q (.tup (xs ++ ys)) env) : OpK fCatT Q (.tup xs) (.tup ys) env := ⟨_, ⟨xs, ys, rfl, rfl, hl, rfl⟩, h⟩
theorem dInX_s {neg : Bool} (h : dOp (fInX neg) da db env Q) : dInX neg da db env Q := h
def SortMK (Q : D → EV nf → Prop) : List D → EV nf → Prop := fun ds env1 => ∃ ps : List DS.Pr, ds = [.lst (ps.map pairD)] ∧ Q (.lst ((sortP ps).map pairD)) env1
theorem dSortM_s (h : ra env (SortMK Q)) : dSortM ra env Q := h
theorem sortMK_s {ps : List DS.Pr} (h : Q (.lst ((sortP ps).map pairD)) env) : SortMK Q [.lst (ps.map pairD)] env := ⟨ps, rfl, h⟩
def SortSetK (Q : D → EV nf → Prop) : List D → EV nf → Prop := fun ds env1 => ∃ ps : List DS.Pr, (ds = [.lst (ps.map pairD)] ∨ ds = [.tup (ps.map pairD)]) ∧ DS.FewP ps ∧ Q (.lst ((ascP ps).map pairD)) env1
theorem dSortSet_s (h : ra env (SortSetK Q)) : dSortSet ra env Q := h
theorem sortSetL_s {ps : List DS.Pr} (hl : DS.FewP ps) (h : Q (.lst ((ascP ps).map pairD)) env) : SortSetK Q [.lst (ps.map pairD)] env := ⟨ps, .inl rfl, hl, h⟩
theorem sortSetT_s {ps : List DS.Pr} (hl : DS.FewP ps) (h : Q (.lst ((ascP ps).map pairD)) env) : SortSetK Q [.tup (ps.map pairD)] env := ⟨ps, .inr rfl, hl, h⟩
def InXVK (K : PySem.W.Frag) (neg : Bool) (i : Nat) (Q : D → EV nf → Prop) : D → EV nf → Prop := fun x env1 => ∃ xs p ps, lsAt K env1 i xs ∧ pyOf x = some p ∧ pyOfs xs = some ps ∧ SeqAt.shaped p = true ∧ SeqAt.shaped (.list ps) = true ∧ Q (.bl (if neg then !inX p ps else inX p ps)) env1
theorem dInXV_s {neg : Bool} (h : da env (InXVK K neg i Q)) : dInXV K neg da i env Q := h
theorem minK_s {a b : Int} (h : Q (.int (if b < a then b else a)) env) : CbK fMin Q [.int a, .int b] env := ⟨_, ⟨a, b, rfl, rfl⟩, h⟩
theorem maxK_s {a b : Int} (h : Q (.int (if b > a then b else a)) env) : CbK fMax Q [.int a, .int b] env := ⟨_, ⟨a, b, rfl, rfl⟩, h⟩
def pyP (p : DS.Pr) : PyData := .tuple [.int p.1, .str p.2]
theorem py_pair (p : DS.Pr) : pyOf (pairD p) = some (pyP p) := by simp [pairD, pyOf, pyOfs, pyP]
theorem py_pairs : ∀ ps : List DS.Pr, pyOfs (ps.map pairD) = some (ps.map pyP)
  | [] => rfl
  | p :: ps => by simp [pyOfs, py_pair, py_pairs ps]
theorem eqv_pair (p q : DS.Pr) : PyData.eqv (pyP p) (pyP q) = decide (p = q) := bxU (by simp (disch := with_unfolding_all
  simp only [pyP, PyData.eqv, PyData.eqvAll, Bool.and_true]
  rw [Bool.eq_iff_iff]
  simp only [Bool.and_eq_true, decide_eq_true_eq, beq_iff_eq]
  constructor
  · rintro ⟨h1, h2⟩; exact Prod.ext h1 h2
  · rintro rfl; exact ⟨rfl, rfl⟩) only [bxI])
theorem inX_pairs (p : DS.Pr) (ps : List DS.Pr) : inX (pyP p) (ps.map pyP) = decide (p ∈ ps) := bxU (by simp (disch := with_unfolding_all
  unfold inX
  rw [List.any_map, Bool.eq_iff_iff]
  simp only [List.any_eq_true, Function.comp_apply, eqv_pair, decide_eq_true_eq]
  constructor
  · rintro ⟨x, hx, rfl⟩; exact hx
  · intro h; exact ⟨p, h, rfl⟩) only [bxI])
def okP (p : DS.Pr) : Prop := PyData.strOk p.2 = true
theorem shaped_pair {p : DS.Pr} (h : okP p) : SeqAt.shaped (pyP p) = true := bxU (by simp (disch := with_unfolding_all
  unfold SeqAt.shaped
  have h' : PyData.strOk p.2 = true := h
  simp [pyP, PyData.canLay0, PyData.canLayAll0, PyData.depth, PyData.depthAll, h']) only [bxI])
theorem lay_pairs : ∀ {ps : List DS.Pr}, (∀ p ∈ ps, okP p) → PyData.canLayAll0 (ps.map pyP) = true ∧ PyData.depthAll (ps.map pyP) ≤ 1
  | [], _ => by simp [PyData.canLayAll0, PyData.depthAll]
  | p :: ps, h => by
    obtain ⟨h1, h2⟩ := lay_pairs (ps := ps) fun q hq => h q (List.mem_cons_of_mem _ hq)
    have h' : PyData.strOk p.2 = true := h p List.mem_cons_self
    simp only [List.map_cons, PyData.canLayAll0, PyData.depthAll, h1, Bool.and_true]
    simp [pyP, PyData.canLay0, PyData.canLayAll0, PyData.depth, PyData.depthAll, h']
    omega
theorem shaped_pairs {ps : List DS.Pr} (h : ∀ p ∈ ps, okP p) : SeqAt.shaped (.list (ps.map pyP)) = true := bxU (by simp (disch := with_unfolding_all
  obtain ⟨h1, h2⟩ := lay_pairs h
  unfold SeqAt.shaped
  simp [PyData.canLay0, PyData.depth, h1]
  omega) only [bxI])
theorem inXT_s {p : DS.Pr} {ps : List DS.Pr} {neg : Bool} (hp : okP p) (hs : ∀ q ∈ ps, okP q) (h : Q (.bl (if neg then !decide (p ∈ ps) else decide (p ∈ ps))) env) : OpK (fInX neg) Q (pairD p) (.tup (ps.map pairD)) env :=
  ⟨_, ⟨pyP p, ps.map pyP, py_pair p, .inr (by simp [pyOf, py_pairs]), shaped_pair hp, shaped_pairs hs, rfl⟩, by rw [inX_pairs]; exact h⟩
theorem inXV_s {p : DS.Pr} {ps : List DS.Pr} {neg : Bool} {v : V} (e : env[i]? = some (.ow v (lstA K nf (ps.map pairD)))) (hp : okP p) (hs : ∀ q ∈ ps, okP q) (h : Q (.bl (if neg then !decide (p ∈ ps) else decide (p ∈ ps))) env) : InXVK K neg i Q (pairD p) env :=
  ⟨_, pyP p, ps.map pyP, .inr ⟨v, e⟩, py_pair p, py_pairs ps, shaped_pair hp, shaped_pairs hs, by rw [inX_pairs]; exact h⟩
end
end DL
namespace DL
open PySem L2
section
variable {nf : NFs} {a b : DTS nf} {De : EndsD nf} {env : EV nf}
def sSeqC (a b : DTS nf) : DTS nf := sSeq a b
theorem seqC_id (h : sSeqC a b De env) : sSeqC a b De env := h
theorem cutC_s (P : EV nf → Prop) (h2 : ∀ R : EV nf → Prop, (∀ e, P e → R e) → a { De with nx := R } env) (h1 : ∀ e, P e → b De e) : sSeqC a b De env := h2 (b De) h1
variable {K : PySem.W.Frag} {i : Nat} {db : DT nf} {Q : D → EV nf → Prop} {y : D}
end
end DL
namespace DL
open PySem L2
section
variable {X : Cx} {nf : NFs} [Anch nf] {K : PySem.W.Frag} {CX : CXT} {k : Nat} {f C : Addr} {fd : FuncData} {ps : List Str} {sp : Sp} {E : XK} {a b : Expr} {pos : Pos} {da db : DT nf} {S : SpD nf} {W : WX} {xc : XcD nf}
theorem pb2 (env : EV nf) (x y : D) (as : List (SD nf)) : putBack env [.v x, .v y] as = env := bxU (by simp (disch := with_unfolding_all
  match as with
  | [] => simp [putBack]
  | [_] => simp [putBack]
  | _ :: _ :: _ => simp [putBack]) only [bxI])
end
end DL
namespace DL
open PySem L2
end DL
namespace DL
open PySem L2
end DL
namespace DL
open PySem L2
section
open ClX (CRead CMet)
variable {X : Cx} {nf : NFs} [Anch nf] {K : PySem.W.Frag} {CX : CXT} {k n : Nat} {f C pr : Addr} {mc : Value} {fd : FuncData} {ps : List Str} {S : SpD nf} {dvs : List V} {dds : List D} {ds : List Value} {E : XK} {x m : Str} {p pos apos : Pos} {e o : Expr} {es : List Expr} {r : DM nf} {da : DT nf}
theorem pe_makeL {i : Nat} {sp : Sp} {t : TA} (M : Mk X.K C f) (F : FnOk X.prog X.w X.K X.mg X.base CX k f fd ps sp) (hr : Room (k + 1) X.A) (hN : X.N[i]? = some x) (hv : Vis X.env.scope x) (hb : Binds X.K fd ps ds) (hd : Vals dvs ds) (hx : Passes CX X E)
    (ha : PA X (e :: es) t) (hdb : (x == ("__debug__" : Str)) = false := by decide) (hcd : (x == ("__classdict__" : Str)) = false := by decide) (he : starEach (e :: es) X.env = (false, eval e X.env) :: starEach es X.env := by rfl) (hpl : (backTo pos (starEach es X.env)).any (·.1) = false := by rfl) :
    PE X (.Call (.Name x p) (e :: es) [] pos) (fun σ H Q => σ[i]? = some (some (.ref C)) ∧ tMake C sp dvs E t σ H Q) := bxU (by simp (disch := with_unfolding_all
  refine ⟨fun pins s σ H Q I h => ?_⟩
  obtain ⟨hs, ht⟩ := h
  refine wpAny_Call_Name_kw (thn ((pe_var (pos := p) hN hv hdb hcd).run pins s σ H (fun v H1 => v = .ref C ∧ H1 = H) I ⟨.ref C, hs, rfl, rfl⟩) fun u s1 ⟨v, H1, I1, r1, q1⟩ => ?_)
  obtain ⟨rfl, rfl⟩ := q1
  cases r1
  refine PySem.W.callWith_K (h₀ := X.base) I.ok.mod.kin M.kp (thn (ha.run pos pins s1 σ _ _ I1 ht) fun us s2 ⟨vs, H2, I2, r, q⟩ => ⟨I2.kIn, ?_⟩) he hpl
  exact run_make M F hr hb hd hx I2 r q) only [bxI])
end
end DL
namespace DL
open PySem
theorem cl2_app (x y : Str) : (x ++ y).cps.toList = x.cps.toList ++ y.cps.toList := bxU (by simp (disch := with_unfolding_all (rw [Str.cps_append, Array.toList_append])) only [bxI])
def wordP (p : DS.Pr) : Str := (Str.ofString (toString p.1) ++ Str.ofString ":") ++ p.2
/-- a pair that can be written: neither a colon nor a space in its name -/
structure WrP (p : DS.Pr) : Prop where
  lo : 0 ≤ p.1
  hi : p.1 < 10 ^ 60
  ne : p.2.cps.toList ≠ []
  len : p.2.length ≤ 12
  col : 58 ∉ p.2.cps.toList
  spc : 32 ∉ p.2.cps.toList
section
variable {p : DS.Pr}
theorem WrP.num (h : WrP p) : ∃ n : Nat, p.1 = (n : Int) ∧ n < 10 ^ 60 := bxU (by simp (disch := with_unfolding_all
  refine ⟨p.1.toNat, (Int.toNat_of_nonneg h.lo).symm, ?_⟩
  have := h.hi
  have h0 := h.lo
  have e : ((10 ^ 60 : Nat) : Int) = 10 ^ 60 := by decide
  omega) only [bxI])
theorem cl_num {n : Nat} : (Str.ofString (toString ((n : Nat) : Int))).cps.toList = TL.numL n := TL.tl_num n
theorem WrP.cl (h : WrP p) : ∃ n : Nat, p.1 = (n : Int) ∧ n < 10 ^ 60 ∧ (wordP p).cps.toList = TL.numL n ++ (58 :: p.2.cps.toList) := bxU (by simp (disch := with_unfolding_all
  obtain ⟨n, e, hn⟩ := h.num
  refine ⟨n, e, hn, ?_⟩
  unfold wordP
  rw [cl2_app, cl2_app, e, cl_num, List.append_assoc]
  rfl) only [bxI])
theorem num_len {n : Nat} (h : n < 10 ^ 60) : (TL.numL n).length ≤ 60 := bxU (by simp (disch := with_unfolding_all
  exact TL.numL_len (by decide) h) only [bxI])
theorem WrP.int (h : WrP p) : PySem.intText? (Str.ofString (toString p.1)) = some p.1 := bxU (by simp (disch := with_unfolding_all
  obtain ⟨n, e, hn⟩ := h.num
  rw [e]
  exact TL.int_num (by have := num_len hn; omega)) only [bxI])
end
end DL
namespace DL
end DL
namespace DL
open PySem L2
section
variable {X : Cx} {nf : NFs} [Anch nf] {K : PySem.W.Frag}
/-- the same arguments, one slot further down -/
def shD : AD → AD
  | .v d => .v d
  | .o i => .o (i + 1)
theorem sh_res {s : SD nf} {env : EV nf} (ad : AD) : resolve (s :: env) (shD ad) = resolve env ad := bxU (by simp (disch := with_unfolding_all (cases ad <;> rfl)) only [bxI])
theorem sh_map {s : SD nf} {env : EV nf} (ads : List AD) : (ads.map shD).map (resolve (s :: env)) = ads.map (resolve env) := bxU (by simp (disch := with_unfolding_all
  rw [List.map_map]
  exact List.map_congr_left fun ad _ => sh_res ad) only [bxI])
theorem sh_slots : ∀ ads : List AD, slotsOf (ads.map shD) = (slotsOf ads).map (· + 1)
  | [] => rfl
  | .v d :: ads => by simpa [slotsOf, shD] using sh_slots ads
  | .o i :: ads => by simpa [slotsOf, shD] using sh_slots ads
theorem sh_put {s : SD nf} : ∀ {env : EV nf} (ads : List AD) (as : List (SD nf)), putBack (s :: env) (ads.map shD) as = s :: putBack env ads as
  | env, [], as => by cases as <;> rfl
  | env, _ :: _, [] => rfl
  | env, .v d :: ads, t :: as => by simpa [putBack, shD] using sh_put ads as
  | env, .o i :: ads, t :: as => by simpa [putBack, shD] using sh_put (env := env.set i t) ads as
theorem sh_args {H : Hp} {σ : St} {o : Option V} : ∀ {vs : List V} {ads : List AD}, ArgsM K nf H σ vs ads → ArgsM K nf H (o :: σ) vs (ads.map shD)
  | _, _, .nil => .nil
  | _, _, .val h r => .val h (sh_args r)
  | _, _, .slot h r => .slot (by simpa using h) (sh_args r)
def dCallT (n : Nat) (S : SpD nf) (n0 : Nat) (S0 : SpO nf) (r0 r : DM nf) : DT nf := fun env Q => r0 env fun ads0 env0 => ads0.length = n0 ∧ (slotsOf ads0).Nodup ∧ (∀ i ∈ slotsOf ads0, i < env0.length) ∧
  S0 (ads0.map (resolve env0)) fun s as0 => isSet s ∧ r (putBack env0 ads0 as0) fun ads env1 => ads.length + 1 = n ∧ (slotsOf ads).Nodup ∧ (∀ i ∈ slotsOf ads, i < env1.length) ∧
    S (s :: ads.map (resolve env1)) fun d as' => ∃ s' rest, as' = s' :: rest ∧ Q d (putBack env1 ads rest)
theorem lift_callT {S : SpD nf} {S0 : SpO nf} {n n0 : Nat} {r0 r : DM nf} {E E0 : XK} (σ : St) (H : Hp) (Q : VK) (h : lift K nf (dCallT n S n0 S0 r0 r) σ H Q) :
    tCall (toSp K nf n S) [] E (tCons (tCall (toSpO K nf n0 S0) [] E0 (liftM K nf r0)) (liftM K nf r)) σ H Q := bxU (by simp (disch := with_unfolding_all
  obtain ⟨env, fp, Qd, R, h, k⟩ := h
  refine ⟨env, fp, _, R, h, fun vs0 H1 ads0 env0 fp0 M0 R0 c0 ⟨hl0, nd0, hin0, s0⟩ => ?_⟩
  obtain ⟨fpa, RA, put⟩ := R0.args M0 nd0 hin0
  rw [List.append_nil]
  refine ⟨by rw [M0.len, hl0], _, fpa, _, by rw [List.length_map, hl0], RA, s0, fun v H2 s as0 fi fp1 hl1 rs R1 dis1 c1 ⟨hset, q1⟩ => ?_⟩
  have c1' : Ch nf fpa H1 fp1 H2 := c1.less fun a m => List.mem_append_right _ m
  obtain ⟨fp2, R2, c2, sub2, suba⟩ := put H2 as0 fp1 (by rw [hl1, hl0]) R1 c1'
  have dis2 : ∀ a ∈ fi, a ∉ fp2 := fun a m z => by
    rcases sub2 a z with q | ⟨q1, q2⟩
    · exact dis1 a m q
    · rcases c1.sub a (List.mem_append_left _ m) with y | y
      · exact q2 y
      · obtain ⟨u, e, _⟩ := R0.trk a q1
        rw [y] at e; cases e
  refine ⟨_, fp2, _, R2, q1, fun vs H3 ads env3 fp3 M3 R3 c3 ⟨hl3, nd3, hin3, s3⟩ => ?_⟩
  have st : ∀ a ∈ fi, H3 a = H2 a := fun a m => by
    obtain ⟨u, e, _, hpl⟩ := rs.trk a m
    rw [e]
    exact c3.keep a u e (dis2 a m) hpl.1
  have rs3 : SlotR K nf H3 (some v) fi s := rs.frame st (c3.stp R2)
  have dis3 : ∀ a ∈ fi, a ∉ fp3 := fun a m z => by
    rcases c3.sub a z with y | y
    · exact dis2 a m y
    · obtain ⟨u, e, _⟩ := rs.trk a m
      rw [y] at e; cases e
  have RX : EnvL K nf H3 (some v :: σ) (s :: env3) (fi ++ fp3) := .cons rs3 R3.1 dis3
  have ndx : (slotsOf (AD.o 0 :: ads.map shD)).Nodup := by
    show (0 :: slotsOf (ads.map shD)).Nodup
    rw [sh_slots, List.nodup_cons]
    refine ⟨fun m => ?_, List.Pairwise.map _ (fun a b hab e => hab (by omega)) nd3⟩
    obtain ⟨z, _, e⟩ := List.mem_map.mp m
    omega
  have hinx : ∀ i ∈ slotsOf (AD.o 0 :: ads.map shD), i < (s :: env3).length := fun i m => by
    have m' : i ∈ 0 :: slotsOf (ads.map shD) := m
    rw [sh_slots] at m'
    rcases List.mem_cons.mp m' with e | m'
    · subst e; simp
    · obtain ⟨z, hz, e⟩ := List.mem_map.mp m'
      have := hin3 z hz
      rw [List.length_cons]; omega
  obtain ⟨fpb, RB, putb⟩ := RX.args (vs := v :: vs) (ads := .o 0 :: ads.map shD) (.slot rfl (sh_args M3)) ndx hinx
  have eB : (AD.o 0 :: ads.map shD).map (resolve (s :: env3)) = s :: ads.map (resolve env3) := by
    rw [List.map_cons, sh_map]
    rfl
  rw [eB] at RB
  show toSp K nf n S ((v :: vs) ++ []) H3 Q E
  rw [List.append_nil]
  refine ⟨by rw [List.length_cons, M3.len, hl3], _, fpb, _, by rw [List.length_cons, List.length_map, hl3], RB, s3, fun w H4 d as' fp4 hl4 rd R4 c4 ⟨s', rest, eas, q4⟩ => ?_⟩
  subst eas
  obtain ⟨fp5, R5, c5, _, _⟩ := putb H4 (s' :: rest) fp4 (by rw [hl4, List.length_cons, List.length_map, hl3]) R4 c4
  have e5 : putBack (s :: env3) (AD.o 0 :: ads.map shD) (s' :: rest) = s' :: putBack env3 ads rest := by
    show putBack ((s :: env3).set 0 s') (ads.map shD) rest = _
    exact sh_put ads rest
  rw [e5] at R5
  cases R5 with
  | @cons _ _ _ _ g1 g2 hs hr hd =>
    have fi1 : ∀ a ∈ fi, a ∈ fp0 ∨ H1 a = none := fun a m => (c1.sub a (List.mem_append_left _ m)).imp (suba a) id
    have CC : Ch nf fp0 H1 g2 H4 := by
      refine ⟨fun a u e na nt => ?_, fun a m => ?_, fun a e => c2.there a (c3.there a (c5.there a e)), fun P h => c5.tab P (c3.tab P (c2.tab P h))⟩
      · have e2 : H2 a = some u := c2.keep a u e na nt
        have n2 : a ∉ fp2 := fun z => by
          rcases c2.sub a z with y | y
          · exact na y
          · rw [y] at e; cases e
        have e3 : H3 a = some u := c3.keep a u e2 n2 nt
        refine c5.keep a u e3 (fun z => ?_) nt
        rcases List.mem_append.mp z with z | z
        · rcases fi1 a z with y | y
          · exact na y
          · rw [y] at e; cases e
        · rcases c3.sub a z with y | y
          · exact n2 y
          · rw [y] at e2; cases e2
      · rcases c5.sub a (List.mem_append_right _ m) with z | z
        · rcases List.mem_append.mp z with z | z
          · exact fi1 a z
          · rcases c3.sub a z with y | y
            · exact c2.sub a y
            · exact .inr (c2.there a y)
        · exact .inr (c2.there a (c3.there a z))
    exact k w H4 d _ g2 rd ⟨hr, Anch.up R0.2 CC⟩ (c0.trans CC) q4) only [bxI])
section
variable {CX CX2 : CXT} {k k2 n n0 : Nat} {f g : Addr} {fd fd2 : FuncData} {ps ps2 : List Str} {S : SpD nf} {S0 : SpO nf} {E E0 : XK} {x y : Str} {p p2 pos pos2 : Pos} {e : Expr} {es es0 : List Expr} {r r0 : DM nf}
theorem de_callT (F : FnOk X.prog X.w X.K X.mg X.base CX k f fd ps (toSp X.K nf n S)) (hr : Room k X.A) (hg : Gl X x) (hm : X.mg x = some (.ref f)) (hk : PySem.W.keepIn X.K (.ref f) = true) (hb : Binds X.K fd ps []) (hx : Passes CX X E)
    (G : FnOk X.prog X.w X.K X.mg X.base CX2 k2 g fd2 ps2 (toSpO X.K nf n0 S0)) (hr2 : Room k2 X.A) (hg2 : Gl X y) (hm2 : X.mg y = some (.ref g)) (hk2 : PySem.W.keepIn X.K (.ref g) = true) (hb2 : Binds X.K fd2 ps2 []) (hx2 : Passes CX2 X E0)
    (ha0 : DAM X nf (e :: es0) r0) (ha : DAM X nf es r) (hdb : (x == ("__debug__" : Str)) = false := by decide) (hdb2 : (y == ("__debug__" : Str)) = false := by decide)
    (he0 : starEach (e :: es0) X.env = (false, eval e X.env) :: starEach es0 X.env := by rfl) (hpl0 : (backTo pos2 (starEach es0 X.env)).any (·.1) = false := by rfl)
    (he : starEach (.Call (.Name y p2) (e :: es0) [] pos2 :: es) X.env = (false, eval (.Call (.Name y p2) (e :: es0) [] pos2) X.env) :: starEach es X.env := by rfl) (hpl : (backTo pos (starEach es X.env)).any (·.1) = false := by rfl) :
    DE X nf (.Call (.Name x p) (.Call (.Name y p2) (e :: es0) [] pos2 :: es) [] pos) (dCallT n S n0 S0 r0 r) :=
  pe_imp (pe_call F hr hg hm hk hb .nil hx (pa_cons (pe_call G hr2 hg2 hm2 hk2 hb2 .nil hx2 ha0 hdb2 he0 hpl0) ha he) hdb he hpl) lift_callT
end
end
section
variable {nf : NFs} {env : EV nf} {Q : D → EV nf → Prop} {n n0 : Nat} {S : SpD nf} {S0 : SpO nf} {r0 r : DM nf} {as : List (SD nf)}
def CallT1 (n : Nat) (S : SpD nf) (n0 : Nat) (S0 : SpO nf) (r : DM nf) (Q : D → EV nf → Prop) : List AD → EV nf → Prop := fun ads0 env0 => ads0.length = n0 ∧ (slotsOf ads0).Nodup ∧ (∀ i ∈ slotsOf ads0, i < env0.length) ∧
  S0 (ads0.map (resolve env0)) fun s as0 => isSet s ∧ r (putBack env0 ads0 as0) fun ads env1 => ads.length + 1 = n ∧ (slotsOf ads).Nodup ∧ (∀ i ∈ slotsOf ads, i < env1.length) ∧
    S (s :: ads.map (resolve env1)) fun d as' => ∃ s' rest, as' = s' :: rest ∧ Q d (putBack env1 ads rest)
def CallT2 (n : Nat) (S : SpD nf) (s : SD nf) (Q : D → EV nf → Prop) : List AD → EV nf → Prop := fun ads env1 => ads.length + 1 = n ∧ (slotsOf ads).Nodup ∧ (∀ i ∈ slotsOf ads, i < env1.length) ∧ S (s :: ads.map (resolve env1)) fun d as' => ∃ s' rest, as' = s' :: rest ∧ Q d (putBack env1 ads rest)
def CallT3 (env : EV nf) (ads : List AD) (Q : D → EV nf → Prop) : D → List (SD nf) → Prop := fun d as' => ∃ s' rest, as' = s' :: rest ∧ Q d (putBack env ads rest)
def CallT4 (n : Nat) (S : SpD nf) (env0 : EV nf) (ads0 : List AD) (r : DM nf) (Q : D → EV nf → Prop) : SD nf → List (SD nf) → Prop := fun s as0 => isSet s ∧ r (putBack env0 ads0 as0) (CallT2 n S s Q)
theorem dCallT_s (h : r0 env (CallT1 n S n0 S0 r Q)) : dCallT n S n0 S0 r0 r env Q := h
theorem callT1_s {ads0 : List AD} (h1 : ads0.length = n0) (h2 : ndB (slotsOf ads0) = true) (h3 : (slotsOf ads0).all (fun i => Nat.blt i env.length) = true) (e2 : ads0.map (resolve env) = as) (h : S0 as (CallT4 n S env ads0 r Q)) : CallT1 n S n0 S0 r Q ads0 env := bxU (by simp (disch := with_unfolding_all
  subst e2
  exact ⟨h1, nd_of h2, ofAll h3, h⟩) only [bxI])
theorem callT4_s {ads0 : List AD} {v : V} {A : OA nf} {as0 : List (SD nf)} {env' : EV nf} (e : putBack env ads0 as0 = env') (h : r env' (CallT2 n S (.ow v A) Q)) : CallT4 n S env ads0 r Q (.ow v A) as0 := bxU (by simp (disch := with_unfolding_all
  subst e
  exact ⟨trivial, h⟩) only [bxI])
theorem callT2_s {ads : List AD} {s : SD nf} (h1 : ads.length + 1 = n) (h2 : ndB (slotsOf ads) = true) (h3 : (slotsOf ads).all (fun i => Nat.blt i env.length) = true) (e2 : ads.map (resolve env) = as) (h : S (s :: as) (CallT3 env ads Q)) : CallT2 n S s Q ads env := bxU (by simp (disch := with_unfolding_all
  subst e2
  exact ⟨h1, nd_of h2, ofAll h3, h⟩) only [bxI])
theorem callT3_s {ads : List AD} {s' : SD nf} {rest : List (SD nf)} {env' : EV nf} {d : D} (e : putBack env ads rest = env') (h : Q d env') : CallT3 env ads Q d (s' :: rest) := bxU (by simp (disch := with_unfolding_all
  subst e
  exact ⟨s', rest, rfl, h⟩) only [bxI])
end
end DL
namespace DL
section
open PySem L2
variable {X : Cx} {nf : NFs} [Anch nf] {K : PySem.W.Frag} {CX : CXT} {k : Nat} {f C : Addr} {fd : FuncData} {ps : List Str} {sp : Sp} {E : XK} {e : Expr} {p pos : Pos} {da : DT nf} {S : SpD nf} {i : Nat}
def sqAt (K : PySem.W.Frag) (env : EV nf) (i : Nat) (xs : List D) : Prop := env[i]? = some (.fz (.lst xs)) ∨ env[i]? = some (.fz (.tup xs)) ∨ ∃ v, env[i]? = some (.ow v (lstA K nf xs))
theorem EnvR.sq {H : Hp} {σ : St} {env : EV nf} {fp : List Addr} (R : EnvR K nf H σ env fp) {xs : List D} (h : sqAt K env i xs) : ∃ l vs, σ[i]? = some (some (.ref l)) ∧ (SqL K H l vs ∨ SqT K H l vs) ∧ Rels K nf H vs xs := bxU (by simp (disch := with_unfolding_all
  rcases h with h | h | ⟨v, h⟩
  · obtain ⟨o, fi, e1, ⟨_, u, eo, r⟩, _⟩ := R.at h
    subst eo
    cases r with
    | @lst a vs _ hl rr => exact ⟨a, vs, e1, .inl hl.sq, rr⟩
  · obtain ⟨o, fi, e1, ⟨_, u, eo, r⟩, _⟩ := R.at h
    subst eo
    cases r with
    | @tup a vs _ hl rr => exact ⟨a, vs, e1, .inr hl, rr⟩
  · obtain ⟨p, vs, ev, e1, hp, rr, _⟩ := R.lstAt h
    exact ⟨p, vs, e1, .inl (SqL.of hp), rr⟩) only [bxI])
end
section
open PySem PySem.Spec PyProof.Rows L2
variable {P : Program} {w : World} {K : PySem.W.Frag} {mg : Str → Option Value} {base : Heap}
def starSp (n : Nat) (sp : Sp) : Sp := fun vs H Q E => ∃ ws rest, vs = ws ++ rest ∧ ws.length = n ∧ rest.length ≤ sizeLine ∧ ∀ p, H p = Option.none → sp (ws ++ [V.ref p]) (upd H p (.tup rest)) Q E
end
end DL
namespace DL
open PySem PySem.Spec PyProof.Rows L2 L2H
/-- p: the error's object, C its class, d its own dict -/
structure FnE (P : Program) (w : World) (K : PySem.W.Frag) (mg : Str → Option Value) (base : Heap) (CX : CXT) (k : Nat) (f : Addr) (fd : FuncData) (ps : List Str) (sp : Addr → Addr → Addr → Sp) : Prop where
  len : ∀ a C d vs H Q E, sp a C d vs H Q E → vs.length = ps.length
  run : ∀ (p : Addr × Obj) (C d : Addr) (A : Around) (out : List Env) (s : Shared) (H : Hp) (ar : Args) (us : List Value) (vs : List V) (Q : VK) (E : XK),
    RoomH k A → PinOk out H s p → Zc (.ref C) (some d) p.2 → (∃ fv, p.2.data = .fields fv) → Env0 P w K mg base A out s H → BindsTo s fd ar (ps.zip us) → Vals vs us → sp p.1 C d vs H Q E →
    codeAny (model P w) A (.call (.ref f) ar) (CR CX out P w H s Q E) s
section
variable {CX : CXT} {P : Program} {w : World} {K : PySem.W.Frag} {mg : Str → Option Value} {base : Heap} {k : Nat} {f : Addr} {name qual : Str} {params : Arguments} {body : List Stmt} {scope : Scope} {dV kV doc pm cdv ct oc : Value} {an od : Option Addr} {osl : Array (Option Value)} {N ps : List Str} {sp : Addr → Addr → Addr → Sp}
theorem fnE_of (lk : K.lookup f = some ⟨oc, od, .func (PySem.W.fnOf name qual params body scope dV kV doc pm an cdv ct), osl⟩) (hcd : PySem.W.codeIn K cdv qual = true) (S : FnScope N ps scope) (len : ∀ a C d vs H Q E, sp a C d vs H Q E → vs.length = ps.length)
    (hbody : ∀ (p : Addr × Obj) (C d : Addr) (A : Around) (out : List Env) (s : Shared) (H : Hp) (vs : List V) (Q : VK) (E : XK), Zc (.ref C) (some d) p.2 → (∃ fv, p.2.data = .fields fv) → RoomH k (A.deeper (envOfC qual scope s.heap.objs.size f cdv)) → sp p.1 C d vs H Q E →
      ∃ t, PSs (cxH CX P w K mg base N qual scope f cdv A out s H E p) body t ∧ t { nx := fun _ H' => Q .non H', rt := Q } (L2.start N vs) H) :
    FnE P w K mg base CX (k + 1) f (PySem.W.fnOf name qual params body scope dV kV doc pm an cdv ct) ps sp := bxU (by simp (disch := with_unfolding_all
  refine ⟨len, fun p C d A out s H ar us vs Q E hr hpin hz hf e0 hb r hsp => ?_⟩
  have kb := fun b o e => (e0.bs b o e).1
  have KX := e0.mod.kin.keeps kb
  have par : ∀ y ∈ ps.zip us, scope.names.lookup y.1 = some .local ∨ (scope.names.lookup y.1 = some .cell ∧ ((cellsFrom (s.heap.objs.size + 1) scope.names []).lookup y.1).isSome = true) := by
    rintro ⟨n, v⟩ hy
    exact (S.par n (List.of_mem_zip hy).1).imp id fun q => ⟨q, PySem.W.cellsFrom_some _ _ _ (.inl q)⟩
  refine codeAny_call_function hr.depth (KX _ _ lk) rfl S.co S.gen rfl (PySem.W.codeRec_of KX hcd) (hb _ _ _ _ (wpAny_newFunctionEnv_cells S.kind par ?_))
  rintro env rfl s1 x
  obtain ⟨t, ht, hq⟩ := hbody p C d A out s H vs Q E hz hf (hr.deeper _) hsp
  have I := inv_startH (CX := CX) (E := E) S hpin e0 (len _ _ _ _ _ _ _ hsp) r x
  refine ⟨(e0.mod.nolimit.keeps kb).keeps x.toInCall.keep, codeAny_func (wpAny_mono (ht.run [] s1 _ H _ I hq) (fun fl s' hs => ?_) fun e s' z => z)⟩
  cases fl with
  | next => obtain ⟨σ', H', J, q⟩ := hs; exact ⟨V.non, H', J.os, J.bare, J.base, J.hok, rfl, q⟩
  | ret u => obtain ⟨v, σ', H', J, rv, q⟩ := hs; exact ⟨v, H', J.os, J.bare, J.base, J.hok, rv, q⟩
  | brk => obtain ⟨_, _, _, q⟩ := hs; exact q.elim
  | cont => obtain ⟨_, _, _, q⟩ := hs; exact q.elim) only [bxI])
end
section
variable {X : Cx} {CX : CXT} {nf : NFs} [Anch nf] {k n : Nat} {f a C d : Addr} {oe : Obj} {fd : FuncData} {ps : List Str} {sp : Addr → Addr → Addr → Sp} {E : XK} {x : Str} {q pos : Pos} {e : Expr} {es : List Expr} {t : TA}
theorem pe_callE (F : FnE X.prog X.w X.K X.mg X.base CX k f fd ps sp) (hr : RoomH k X.A) (hp : (a, oe) ∈ X.pn) (hz : Zc (.ref C) (some d) oe) (hf : ∃ fv, oe.data = .fields fv) (hg : Gl X x) (hm : X.mg x = some (.ref f)) (hk : PySem.W.keepIn X.K (.ref f) = true) (hb : Binds X.K fd ps []) (hx : Passes CX X E)
    (ha : PA X (e :: es) t) (hdb : (x == ("__debug__" : Str)) = false := by decide) (he : starEach (e :: es) X.env = (false, eval e X.env) :: starEach es X.env := by rfl) (hpl : (backTo pos (starEach es X.env)).any (·.1) = false := by rfl) :
    PE X (.Call (.Name x q) (e :: es) [] pos) (fun σ H Q => t σ H fun vs H1 => sp a C d vs H1 Q E) := bxU (by simp (disch := with_unfolding_all
  refine ⟨fun pins s σ H Q I h => wpAny_Call_Name_kw (ld_glob I hg hm ?_ hdb)⟩
  refine PySem.W.callWith_K (h₀ := X.base) I.ok.mod.kin hk (thn (ha.run pos pins s σ H _ I h) ?_) he hpl
  rintro us s1 ⟨vs, H1, I1, r, q1⟩
  refine ⟨I1.kIn, ?_⟩
  have hl : us.length = ps.length := r.length ▸ F.len _ _ _ _ _ _ _ q1
  have b := hb s1 us I1.kIn (by simpa using hl)
  rw [List.append_nil] at b
  obtain ⟨g1, g2, g3, g4, g5⟩ := I1.pin (a, oe) (List.mem_append_left _ hp)
  have pk : PinOk X.stack H1 s1 (a, oe) := ⟨g1, g2, fun m => (List.mem_cons.mp (I1.stkSub a m)).elim g3 g4, g5⟩
  refine wpAny_call (codeAny_mono (F.run (a, oe) C d X.A X.stack s1 H1 ⟨us, []⟩ us vs Q E hr pk hz hf I1.env0 b r q1) ?_)
  rintro (e | fl) s' hq
  · exact hx pins σ H1 s1 e s' I1 hq
  · cases fl with
    | ret u => exact I1.after hq
    | next => exact hq.elim
    | brk => exact hq.elim
    | cont => exact hq.elim) only [bxI])
/-- f(e, ..): the caught error goes with its slot -/
theorem de_callE {S : Addr → Addr → Addr → SpD nf} {r : DM nf} (F : FnE X.prog X.w X.K X.mg X.base CX k f fd ps (fun a C d => toSp X.K nf n (S a C d))) (hr : RoomH k X.A) (hp : (a, oe) ∈ X.pn) (hz : Zc (.ref C) (some d) oe) (hf : ∃ fv, oe.data = .fields fv) (hg : Gl X x) (hm : X.mg x = some (.ref f)) (hk : PySem.W.keepIn X.K (.ref f) = true) (hb : Binds X.K fd ps []) (hx : Passes CX X E)
    (ha : DAM X nf (e :: es) r) (hdb : (x == ("__debug__" : Str)) = false := by decide) (he : starEach (e :: es) X.env = (false, eval e X.env) :: starEach es X.env := by rfl) (hpl : (backTo pos (starEach es X.env)).any (·.1) = false := by rfl) :
    DE X nf (.Call (.Name x q) (e :: es) [] pos) (dCall n (S a C d) [] r) := pe_imp (pe_callE F hr hp hz hf hg hm hk hb hx ha hdb he hpl) fun σ H Q h => by
  obtain ⟨env, fp, Qd, R, h, k⟩ := h
  refine ⟨env, fp, _, R, h, fun vs H1 ads env1 fp1 r1 R1 c1 ⟨hl, nd, hin, s⟩ => ?_⟩
  simp only [List.map_nil, List.append_nil, List.length_nil, Nat.add_zero] at hl nd hin s
  exact sp_run R1 r1 hl nd hin s fun v H' d env' fp' r' R' c' q => k v H' d env' fp' r' R' (c1.trans c') q
end
section
variable {X : Cx} {nf : NFs} [Anch nf] {i : Nat} {a C d : Addr} {oe : Obj}
theorem exc_atP {pins : List (Addr × Obj)} {σ : L2.St} {H : Hp} {s : Shared} {fs : List (Str × V)} (I : Inv X pins σ H s) (hp : (a, oe) ∈ X.pn) (hz : Zc (.ref C) (some d) oe) (hf : ∃ vs, oe.data = .fields vs) (ed : H d = some (.xd fs)) :
    ∃ (od : Obj) (mA : Str → Option Value), PySem.W.InstAt s.heap a oe C (some od) ∧ (∀ f, PySem.W.lookIn f od = some (mA f)) ∧ ∀ f, RelO (fs.lookup f) (mA f) := bxU (by simp (disch := with_unfolding_all
  obtain ⟨ha, _⟩ := I.pin (a, oe) (List.mem_append_left _ hp)
  obtain ⟨vs, hd⟩ := hf
  have hx : ObjOk X.prog X.w H s.heap d (.xd fs) := I.hok d _ ed
  obtain ⟨mA, hns, hr⟩ := hx
  obtain ⟨od, ho, hl⟩ := lookIn_ns hns
  exact ⟨od, mA, ⟨ha, hz.1, by unfold PySem.W.notCls; rw [hd] <;> rfl, by rw [hz.2]; exact ho⟩, hl, hr⟩) only [bxI])
theorem de_exIsP {e t : Expr} {T : Addr} {p pos : Pos} (hp : (a, oe) ∈ X.pn) (hz : Zc (.ref C) (some d) oe) (hf : ∃ vs, oe.data = .fields vs) (hg : Gl X "isinstance") (hm : X.mg "isinstance" = none) (he : PE X e (tVar i)) (ht : PE X t (tC (.ref T)))
    (hs : starEach [e, t] X.env = (false, eval e X.env) :: starEach [t] X.env := by rfl) (hs2 : starEach [t] X.env = (false, eval t X.env) :: starEach [] X.env := by rfl) (hpl : (backTo pos (starEach [t] X.env)).any (·.1) = false := by rfl) :
    DE X nf (.Call (.Name "isinstance" p) [e, t] [] pos) (dExIs X.K a C d i T) := by
  have cr : CallR X (.builtin "isinstance") (fun xs H Q => ExI X.K C ∧ ∃ fs b, xs = [.ref a, .ref T] ∧ H d = some (.xd fs) ∧ PySem.W.kitOne X.K (.ref C) (.ref T) = some b ∧ Q (.bl b) H) := by
    intro pins s σ H xs us Q I r h
    obtain ⟨E, fs, b, rfl, hd, hk, q⟩ := h
    obtain ⟨u1, u2, rfl, r1, r2⟩ := vals2 r
    obtain rfl : u1 = Value.ref a := r1
    obtain rfl : u2 = Value.ref T := r2
    obtain ⟨od, mA, J, _, _⟩ := exc_atP I hp hz hf hd
    exact PySem.W.kia_one (PySem.W.kitx_exc E.cl E.ga E.gg E.ex E.ha E.hn E.htk E.hm) I.kIn J hk (fun z => nomatch z) fun tk => ⟨.bl b, H, I.tok tk, rfl, q⟩
  refine pe_imp (pe_callB cr hg hm (by decide +kernel) (pa_cons he (pa_cons ht pa_nil hs2) hs) (by decide) (by decide) hs hpl) fun σ H Q h => ?_
  obtain ⟨env, fp, Qd, R, ⟨T', fds, b, e1, hk, q⟩, k⟩ := h
  obtain ⟨es, fs, hd, rf⟩ := R.excAt e1
  exact ⟨_, es, T', fs, b, rfl, hd, hk, k _ H _ env fp (.bl b) R Ch.refl q⟩
end
end DL
namespace DL
open PySem L2
theorem sIx_nat (n d k : Nat) (h : k ≤ n) : HT.sIx n d (some (k : Int)) = k := bxU (by simp (disch := with_unfolding_all
  have h1 : ¬ ((k : Int) < 0) := by omega
  unfold HT.sIx
  simp only [h1, if_false, Int.toNat_natCast]
  omega) only [bxI])
theorem atI_last {α : Type} {xs : List α} {d : α} : atI (xs ++ [d]) (-1) = some d := bxU (by simp (disch := with_unfolding_all
  have e : ixN (xs ++ [d]).length (-1) = some xs.length := by
    unfold ixN
    rw [if_neg (by decide)]
    have h2 : ((-1 : Int) + ((xs ++ [d]).length : Int)).toNat = xs.length := by simp; omega
    first
      | (rw [if_pos (by simp; omega), h2])
      | (simp; omega)
  unfold atI
  rw [e]
  simp) only [bxI])
section
variable {nf : NFs} {env : EV nf} {Q : D → EV nf → Prop} {xs : List D} {ss : List Str} {z : Str} {b : Bool}
theorem dNegC_s {k : Int} (h : Q (.int (-k)) env) : dNeg (dC (.int k)) env Q := ⟨k, rfl, h⟩
end
def plD (n : Nat) (d : D) : Prop := ∃ p, pyOf d = some p ∧ PyData.canLay0 p = true ∧ PyData.depth p ≤ n
def plDs (n : Nat) (ds : List D) : Prop := ∃ ps, pyOfs ds = some ps ∧ PyData.canLayAll0 ps = true ∧ PyData.depthAll ps ≤ n ∧ ps.length = ds.length
theorem plDs_of {n : Nat} : ∀ {ds : List D}, (∀ d ∈ ds, plD n d) → plDs n ds
  | [], _ => ⟨[], rfl, by simp only [PyData.canLayAll0], by simp only [PyData.depthAll]; omega, rfl⟩
  | d :: ds, h => by
    obtain ⟨p, h1, h2, h3⟩ := h d List.mem_cons_self
    obtain ⟨ps, e1, e2, e3, e4⟩ := plDs_of (ds := ds) fun x m => h x (List.mem_cons_of_mem _ m)
    refine ⟨p :: ps, by simp only [pyOfs, h1, e1]; rfl, by simp only [PyData.canLayAll0, h2, e2]; rfl, by simp only [PyData.depthAll]; omega, by simp [e4]⟩
theorem plD.mono {n m : Nat} {d : D} (h : plD n d) (l : n ≤ m) : plD m d := let ⟨p, h1, h2, h3⟩ := h; ⟨p, h1, h2, Nat.le_trans h3 l⟩
theorem plD_tup {n : Nat} {ds : List D} (h : ∀ d ∈ ds, plD n d) : plD (n + 1) (.tup ds) := bxU (by simp (disch := with_unfolding_all
  obtain ⟨ps, e1, e2, e3, _⟩ := plDs_of h
  exact ⟨.tuple ps, by simp only [pyOf, e1]; rfl, by simp only [PyData.canLay0, e2], by simp only [PyData.depth]; omega⟩) only [bxI])
theorem plD_lst {n : Nat} {ds : List D} (h : ∀ d ∈ ds, plD n d) : plD (n + 1) (.lst ds) := bxU (by simp (disch := with_unfolding_all
  obtain ⟨ps, e1, e2, e3, _⟩ := plDs_of h
  exact ⟨.list ps, by simp only [pyOf, e1]; rfl, by simp only [PyData.canLay0, e2], by simp only [PyData.depth]; omega⟩) only [bxI])
theorem plD_int {i : Int} {n : Nat} : plD n (.int i) := ⟨.int i, rfl, by simp only [PyData.canLay0], by simp only [PyData.depth]; omega⟩
theorem plD_non {n : Nat} : plD n .non := ⟨.none, rfl, by simp only [PyData.canLay0], by simp only [PyData.depth]; omega⟩
theorem plD_str {s : Str} {n : Nat} (h : PyData.strOk s = true) : plD n (.str s) := ⟨.str s, rfl, by simpa only [PyData.canLay0] using h, by simp only [PyData.depth]; omega⟩
theorem plD.shaped {n : Nat} {d : D} (h : plD n d) (l : n ≤ 64) : ∃ p, pyOf d = some p ∧ SeqAt.shaped p = true := bxU (by simp (disch := with_unfolding_all
  obtain ⟨p, h1, h2, h3⟩ := h
  refine ⟨p, h1, ?_⟩
  unfold SeqAt.shaped
  rw [h2, decide_eq_true (show p.depth ≤ 64 by omega)]
  rfl) only [bxI])
section
variable {nf : NFs} {env : EV nf} {Q : D → EV nf → Prop} {xs : List D} {n : Nat}
theorem eqvAll_nil (ps : List PyData) : PyData.eqvAll ps [] = ps.isEmpty := bxU (by simp (disch := with_unfolding_all (cases ps <;> simp only [PyData.eqvAll] <;> rfl)) only [bxI])
theorem nil_of {xs : List D} {ps : List PyData} (h : pyOfs xs = some ps) : ps.isEmpty = xs.isEmpty := bxU (by simp (disch := with_unfolding_all
  cases xs with
  | nil => simp only [pyOfs, Option.some.injEq] at h; subst h; rfl
  | cons x xs =>
    simp only [pyOfs] at h
    cases e : pyOf x with
    | none => rw [e] at h; cases h
    | some p =>
      rw [e] at h
      cases e2 : pyOfs xs with
      | none => rw [e2] at h; cases h
      | some qs =>
        rw [e2] at h
        have : p :: qs = ps := Option.some.inj h
        subst this; rfl) only [bxI])
theorem neNilL_s (h : plD n (.lst xs)) (hn : n ≤ 64) (q : Q (.bl (!xs.isEmpty)) env) : OpK (eqQ true) Q (.lst xs) (.lst []) env := by
  obtain ⟨p, e, sh⟩ := h.shaped hn
  refine eqDT_s e (q := .list []) rfl sh (by decide +kernel) ?_
  cases hp : pyOfs xs with
  | none => simp only [pyOf, hp] at e; cases e
  | some ps =>
    simp only [pyOf, hp] at e
    have e' : PyData.list ps = p := Option.some.inj e
    subst e'
    rw [show PyData.eqv (.list ps) (.list []) = xs.isEmpty from by simp only [PyData.eqv]; rw [eqvAll_nil, nil_of hp]]
    exact q
end
end DL
namespace DL
open PySem PySem.Spec PyProof.Rows L2
end DL
namespace DL
open PySem PySem.Spec PyProof.Rows L2
end DL
namespace DL
open PySem PySem.Spec L2
open PyProof.Rows hiding St
/-- a clause: its class, the slot of its name, its suite's reading -/
abbrev HdR := Value × Option Nat × (Addr → Value → Option Addr → TS)
/-- the name of a clause goes behind its suite -/
def endsBut : Option Nat → Ends → Ends
  | none, D => D
  | some i, D => { nx := fun σ' H' => D.nx (σ'.set i none) H', rt := D.rt, bk := fun σ' H' => D.bk (σ'.set i none) H', ct := fun σ' H' => D.ct (σ'.set i none) H' }
def setBut : Option Nat → Addr → St → St
  | none, _, σ => σ
  | some i, a, σ => σ.set i (some (.ref a))
def wHds (K : PySem.W.Frag) (Wout : WX) (D : Ends) : List HdR → WX
  | [] => Wout
  | (c, o, ts) :: r => fun cls d σ H => ∃ b, PySem.W.exmOne K cls c = some b ∧ (b = true → ∀ a, H a = none → ts a cls d (endsBut o D) (setBut o a σ) H) ∧ (b = false → wHds K Wout D r cls d σ H)
inductive HdsN (X : Cx) : List ExceptHandler → List HdR → Prop
  | nil : HdsN X [] []
  | one {x : Str} {c : Value} {ts : Addr → Value → Option Addr → TS} {b₀ : Stmt} {su : List Stmt} {q1 q2 : Pos} {hds : List ExceptHandler} {l : List HdR} (hc : Names X x c)
      (hsu : ∀ (a : Addr) (oe : Obj) (cls : Value) (d : Option Addr) (pn : List (Addr × Obj)), Zc cls d oe → (∃ vs, oe.data = .fields vs) → PSs (X.suite a ((a, oe) :: pn)) (b₀ :: su) (ts a cls d)) (r : HdsN X hds l) :
      HdsN X (.ExceptHandler (some (.Name x q1)) none (b₀ :: su) q2 :: hds) ((c, none, ts) :: l)
  | as {x n : Str} {c : Value} {i : Nat} {ts : Addr → Value → Option Addr → TS} {b₀ : Stmt} {su : List Stmt} {q1 q2 : Pos} {hds : List ExceptHandler} {l : List HdR} (hN : X.N.Nodup) (hi : X.N[i]? = some n) (hln : X.env.kindOf n = some .local) (hc : Names X x c)
      (hsu : ∀ (a : Addr) (oe : Obj) (cls : Value) (d : Option Addr) (pn : List (Addr × Obj)), Zc cls d oe → (∃ vs, oe.data = .fields vs) → PSs (X.suite a ((a, oe) :: pn)) (b₀ :: su) (ts a cls d)) (r : HdsN X hds l) :
      HdsN X (.ExceptHandler (some (.Name x q1)) (some n) (b₀ :: su) q2 :: hds) ((c, some i, ts) :: l)
section
variable {X : Cx} {body : List Stmt} {h₀ : ExceptHandler} {hds : List ExceptHandler} {l : List HdR} {pos : Pos} {tb : WX → TS} {Wout : WX}
theorem names_look {a : Addr} {oe : Obj} {x : Str} {c : Value} {q1 : Pos} {pins : List (Addr × Obj)} {σ : St} {H : Hp} {s : Shared} (hc : Names X x c) (S : Inv (X.suite a ((a, oe) :: (X.pn ++ pins))) [] σ H s) {Q : Value → Shared → Prop} {E : Value → Shared → Prop} (q : Q c s) :
    wpAny (model X.prog X.w) (X.A.mark (some (.ref a))) (eval (.Name x q1) X.env) Q E s := bxU (by simp (disch := with_unfolding_all
  obtain ⟨g, nd, m | ⟨m, v, nn⟩⟩ := hc
  · exact ld_glob S g m q nd
  · exact ld_blt S g m v q nn nd) only [bxI])
theorem ps_tryN (hs : X.stack = X.env :: X.outer) (hf : X.env.frame = some X.env.locals) (tk : Takes X Wout)
    (hb : ∀ (W : WX) (pn : List (Addr × Obj)) (xe : Value → Shared → Prop), Takes (X.tr pn xe) W → PassesOwn (model X.prog X.w) X.A X.env xe → PSs (X.tr pn xe) body (tb W))
    (hh : HdsN X (h₀ :: hds) l) : PS X (.Try body (h₀ :: hds) [] [] pos) (fun D σ H => tb (wHds X.K Wout D l) D σ H) := bxU (by simp (disch := with_unfolding_all
  refine ⟨fun pins s σ H D I hq => ?_⟩
  have okI := I.ok
  have frA : X.A.frames = some (X.env :: X.outer) := by rw [okI.frames, hs]
  let catch_ : Value → Shared → Prop := fun e z => wpAny (model X.prog X.w) X.A (noteFrame e X.env) (fun _ z2 => wpAny (model X.prog X.w) X.A (setFlight e none) (fun _ z3 =>
    wpAny (model X.prog X.w) X.A (handleBy e X.env (h₀ :: hds)) (SP X pins D) X.xe z3) X.xe z2) X.xe z
  have main : wpAny (model X.prog X.w) X.A (execs body X.env) (SP (X.tr (X.pn ++ pins) catch_) [] D) catch_ s :=
    (hb (wHds X.K Wout D l) (X.pn ++ pins) catch_ (fun u z xx => by
      obtain ⟨a, B, sI, pins1, σ1, H1, cls, d, rfl, J0, nb, up, sky, na, os, ag, w⟩ := xx
      have J : Inv X pins σ1 H1 sI := J0.ofTry okI
      have sk : Sky B (X.env :: X.outer) a (Zc cls d) X.env.locals z.heap := by rw [← hs]; exact sky
      show wpAny (model X.prog X.w) X.A (noteFrame (.ref a) X.env) _ _ _
      refine Sky.land Zc.steady frA hf sk fun g3 fl3 up3 => ?_
      have J3 : Inv X pins σ1 H1 { z with heap := g3 } := J.landed nb fl3.1 (up.trans up3) os ag
      obtain ⟨o3, v3, he3, hz3, hd3⟩ := fl3.there
      have nfr : a ∉ frs (X.env :: X.outer) := fun hm => by
        obtain ⟨_, o', e', hnf⟩ := fl3.2.2.1.mem hm
        rw [he3] at e'; cases e'
        exact hnf _ hd3
      have nL : a ≠ X.env.locals := fun y => nfr (List.mem_filterMap.mpr ⟨X.env, List.mem_cons_self, by rw [hf, y]⟩)
      have nF : a ∉ X.fs := fun hm => by
        obtain ⟨e, m1, m2⟩ := List.mem_filterMap.mp hm
        exact nfr (List.mem_filterMap.mpr ⟨e, List.mem_cons_of_mem _ m1, m2⟩)
      have S3 := J3.suite he3 hd3 na nL nF
      have LT : PySem.W.Looks (model X.prog X.w) g3 (typeOf (.ref a)) cls := fun A Q E y k q => wpAny_typeOf_ref (k _ _ he3) (by rw [hz3.1]; exact q)
      have go : ∀ {hds' : List ExceptHandler} {l' : List HdR}, HdsN X hds' l' → wHds X.K Wout D l' cls d σ1 H1 → wpAny (model X.prog X.w) X.A (handleBy (.ref a) X.env hds') (SP X pins D) X.xe { z with heap := g3 } := by
        intro hds' l' hk
        induction hk with
        | nil =>
          intro w
          refine wpAny_handleBy_nil ?_
          obtain ⟨_, _, _, oe, vs, T, _, _, he, _, hd, h1, _⟩ := id fl3
          unfold PySem.passOn
          refine wpAny_bind (wpAny_field he hd h1 ?_)
          rw [if_neg (show ¬ ((Value.ref T == Value.none) = true) from by simp)]
          have fin : wpAny (model X.prog X.w) X.A (setFlight (.ref a) X.env.frame) (fun _ s4 => wpAny (model X.prog X.w) X.A (throw (.ref a) : Sem Flow) (SP X pins D) X.xe s4) X.xe { z with heap := g3 } := by
            rw [hf]
            refine HandSPX.setFlight_upZ fl3 fun g4 hh4 up4 => wpAny_throw (tk _ _ ?_)
            exact ⟨a, B, sI, pins, σ1, H1, cls, d, rfl, J, nb, (up.trans up3).trans up4, .inr (.inr (by rw [hs]; exact hh4)), na, os, ag, w⟩
          first
            | exact wpAny_bind (wpAny_pure (wpAny_bind fin))
            | exact wpAny_bind fin
        | @one x c ts b₀ su q1 q2 hds2 l2 hc hsu r ih =>
          intro ⟨b, hb1, hyes, hno⟩
          refine wpAny_handleBy_cons (codeAny_handlers_test ?_) (by intro q; cases q)
          refine names_look hc S3 ((PySem.W.exm_one (M := model X.prog X.w) J3.kIn LT hb1).here ?_)
          cases b with
          | false => exact ih (hno rfl)
          | true =>
            refine codeAny_handlers_suite (HandSPX.lands_againZ fl3 fun g4 fl4 up4 => ?_)
            have J4 : Inv X pins σ1 H1 { z with heap := g4 } := J.landed nb fl4.1 ((up.trans up3).trans up4) os ag
            obtain ⟨o4, v4, he4, hz4, hd4⟩ := fl4.there
            have S4 := J4.suite he4 hd4 na nL nF
            refine wpAny_mono ((hsu a o4 cls d (X.pn ++ pins) hz4 ⟨_, hd4⟩).run [] _ _ H1 _ S4 (hyes rfl a na)) (fun f s6 hsp => ?_) (fun _ _ y => y.elim)
            cases f with
            | next => obtain ⟨σ6, H6, S6, q6⟩ := hsp; exact ⟨_, _, S6.unsuite okI, q6⟩
            | brk => obtain ⟨σ6, H6, S6, q6⟩ := hsp; exact ⟨_, _, S6.unsuite okI, q6⟩
            | cont => obtain ⟨σ6, H6, S6, q6⟩ := hsp; exact ⟨_, _, S6.unsuite okI, q6⟩
            | ret u => obtain ⟨v6, σ6, H6, S6, r6, q6⟩ := hsp; exact ⟨_, _, _, S6.unsuite okI, r6, q6⟩
        | @as x n c i ts b₀ su q1 q2 hds2 l2 hN hi hln hc hsu r ih =>
          intro ⟨b, hb1, hyes, hno⟩
          have hloc : Loc X.env.scope n := .inl hln
          refine wpAny_handleBy_cons (codeAny_handlers_test ?_) (by intro q; cases q)
          refine names_look hc S3 ((PySem.W.exm_one (M := model X.prog X.w) J3.kIn LT hb1).here ?_)
          cases b with
          | false => exact ih (hno rfl)
          | true =>
            refine codeAny_handlers_suite_as (HandSPX.lands_againZ fl3 fun g4 fl4 up4 => ?_)
            have J4 : Inv X pins σ1 H1 { z with heap := g4 } := J.landed nb fl4.1 ((up.trans up3).trans up4) os ag
            obtain ⟨o4, v4, he4, hz4, hd4⟩ := fl4.there
            have S4 := J4.suite he4 hd4 na nL nF
            refine store_ok (X := X.suite a ((a, o4) :: (X.pn ++ pins))) (v := .ref a) S4 hN hi hloc rfl (fun s5 S5 => ?_) (.inr hln)
            refine wpAny_mono ((hsu a o4 cls d (X.pn ++ pins) hz4 ⟨_, hd4⟩).run [] s5 _ H1 _ S5 (hyes rfl a na)) (fun f s6 hsp => ?_) (fun _ _ y => y.elim)
            have stop : ∀ {σ6 : St} {H6 : Hp} {Q : Shared → Prop}, Inv (X.suite a ((a, o4) :: (X.pn ++ pins))) [] σ6 H6 s6 → (∀ s7, Inv X pins (σ6.set i none) H6 s7 → Q s7) →
                wpAny (model X.prog X.w) X.A (do bindName X.env n .none; unbindBehindTheSuite X.env n q2) (fun _ s7 => Q s7) X.xe s6 := fun {σ6 H6 Q} S6 hq => gone_ok (S6.unsuite okI) hN hi hln hq
            cases f with
            | next => obtain ⟨σ6, H6, S6, q6⟩ := hsp; exact stop S6 fun s7 J7 => ⟨_, _, J7, q6⟩
            | brk => obtain ⟨σ6, H6, S6, q6⟩ := hsp; exact stop S6 fun s7 J7 => ⟨_, _, J7, q6⟩
            | cont => obtain ⟨σ6, H6, S6, q6⟩ := hsp; exact stop S6 fun s7 J7 => ⟨_, _, J7, q6⟩
            | ret u => obtain ⟨v6, σ6, H6, S6, r6, q6⟩ := hsp; exact stop S6 fun s7 J7 => ⟨_, _, _, J7, r6, q6⟩
      exact go hh w) PassesOwn.looking).run [] s σ H D (I.toTry _) hq
  refine wpAny_Try_except (wpAny_mono main (fun f s1 hsp => ?_) (fun e s1 he => he))
  cases f with
  | next => obtain ⟨σ1, H1, J1, q⟩ := hsp; exact wpAny_execs_nil ⟨σ1, H1, J1.ofTry okI, q⟩
  | brk => obtain ⟨σ1, H1, J1, q⟩ := hsp; exact ⟨σ1, H1, J1.ofTry okI, q⟩
  | cont => obtain ⟨σ1, H1, J1, q⟩ := hsp; exact ⟨σ1, H1, J1.ofTry okI, q⟩
  | ret u => obtain ⟨v, σ1, H1, J1, r, q⟩ := hsp; exact ⟨v, σ1, H1, J1.ofTry okI, r, q⟩) only [bxI])
end
end DL
namespace DL
open PySem L2
/-- a clause: its class, its name's slot, its suite (the error's object, class, own dict) -/
abbrev HdD (nf : NFs) := Value × Option Nat × (Addr → Addr → Addr → DTS nf)
/-- what is wished of an error within the try: caught by a clause, or wished outside -/
def xcH {nf : NFs} (K : PySem.W.Frag) (xcO : XcD nf) (De : EndsD nf) : List (HdD nf) → XcD nf
  | [] => xcO
  | (c, none, th) :: r => fun C fds env => ∃ b, PySem.W.exmOne K (.ref C) c = some b ∧ (b = true → ∀ a d, th a C d De env) ∧ (b = false → xcH K xcO De r C fds env)
  | (c, some i, th) :: r => fun C fds env => ∃ b, PySem.W.exmOne K (.ref C) c = some b ∧ (b = true → i < env.length ∧ ∀ a d, th a C d (unSlot i De) (env.set i (.ow (.ref a) (excA K nf d fds)))) ∧ (b = false → xcH K xcO De r C fds env)
def sTryH {nf : NFs} (K : PySem.W.Frag) (tb : XcD nf → DTS nf) (l : List (HdD nf)) (xcO : XcD nf) : DTS nf := fun De env => tb (xcH K xcO De l) De env
inductive HdsD (X : Cx) (nf : NFs) [AO : Anch nf] : List ExceptHandler → List (HdD nf) → Prop
  | nil : HdsD X nf [] []
  | one {x : Str} {c : Value} {th : Addr → Addr → Addr → DTS nf} {b₀ : Stmt} {su : List Stmt} {q1 q2 : Pos} {hds : List ExceptHandler} {l : List (HdD nf)} (hc : Names X x c)
      (hsu : ∀ (a : Addr) (oe : Obj) (C d : Addr) (pn : List (Addr × Obj)), Zc (.ref C) (some d) oe → (∃ vs, oe.data = .fields vs) → DSs (X.suite a ((a, oe) :: pn)) nf (b₀ :: su) (th a C d)) (r : HdsD X nf hds l) :
      HdsD X nf (.ExceptHandler (some (.Name x q1)) none (b₀ :: su) q2 :: hds) ((c, none, th) :: l)
  | as {x n : Str} {c : Value} {i : Nat} {th : Addr → Addr → Addr → DTS nf} {b₀ : Stmt} {su : List Stmt} {q1 q2 : Pos} {hds : List ExceptHandler} {l : List (HdD nf)} (hN : X.N.Nodup) (hi : X.N[i]? = some n) (hln : X.env.kindOf n = some .local) (hc : Names X x c)
      (hsu : ∀ (a : Addr) (oe : Obj) (C d : Addr) (pn : List (Addr × Obj)), Zc (.ref C) (some d) oe → (∃ vs, oe.data = .fields vs) → DSs (X.suite a ((a, oe) :: pn)) nf (b₀ :: su) (th a C d)) (r : HdsD X nf hds l) :
      HdsD X nf (.ExceptHandler (some (.Name x q1)) (some n) (b₀ :: su) q2 :: hds) ((c, some i, th) :: l)
section
variable {X : Cx} {nf : NFs} [AO : Anch nf]
def tsH (K : PySem.W.Frag) (th : Addr → Addr → Addr → DTS nf) : Addr → Value → Option Addr → TS := fun a cls d D σ H => ∃ C dd, cls = .ref C ∧ d = some dd ∧ liftS K nf (th a C dd) D σ H
def hdR (K : PySem.W.Frag) : HdD nf → HdR := fun h => (h.1, h.2.1, tsH K h.2.2)
theorem HdsD.n : ∀ {hds : List ExceptHandler} {l : List (HdD nf)}, HdsD X nf hds l → HdsN X hds (l.map (hdR X.K))
  | _, _, .nil => .nil
  | _, _, .one hc hsu r => .one hc (fun a oe cls d pn hz hv => ⟨fun pins s σ H D I ⟨C, dd, e1, e2, q⟩ => by
      subst e1 e2
      exact (hsu a oe C dd pn hz hv).run pins s σ H D I q⟩) (HdsD.n r)
  | _, _, .as hN hi hln hc hsu r => .as hN hi hln hc (fun a oe cls d pn hz hv => ⟨fun pins s σ H D I ⟨C, dd, e1, e2, q⟩ => by
      subst e1 e2
      exact (hsu a oe C dd pn hz hv).run pins s σ H D I q⟩) (HdsD.n r)
variable {body : List Stmt} {h₀ : ExceptHandler} {hds : List ExceptHandler} {l : List (HdD nf)} {pos : Pos} {tb : XcD nf → DTS nf} {Wout : WX} {xcO : XcD nf}
theorem wHds_of {K : PySem.W.Frag} {DD : Ends} {De : EndsD nf} {C d : Addr} {fs : List (Str × V)} {fds : List (Str × D)} {σ' : St} {H' : Hp} {env' : EV nf} {fp' fp1 : List Addr} {H1 : Hp} (lk : Link K nf Wout xcO) (R : EnvR K nf H' σ' env' fp')
    (hd : H' d = some (.xd fs)) (rf : RelF K nf H' fs fds) (nd : d ∉ fp') (p1 : Anch.p nf fp1 H1) (e1 : H1 d = none) (fp0 : List Addr) (H0 : Hp) (p0 : Anch.p nf fp0 H0) (c0 : Ch nf fp0 H0 fp' H') (hdn : H0 d = none)
    (br : ∀ σ2 env2 fp2, EnvR K nf H' σ2 env2 fp2 → Ch nf fp0 H0 fp2 H' → @Br K nf AO H' fp2 De DD) : ∀ {l : List (HdD nf)}, xcH K xcO De l C fds env' → wHds K Wout DD (l.map (hdR K)) (.ref C) (some d) σ' H'
  | [], q => lk.to R hd rf nd ⟨fp1, H1, p1, e1⟩ q
  | (c, none, th) :: r, ⟨b, eb, ht, hf⟩ => ⟨b, eb, fun hb a _ => ⟨C, d, rfl, rfl, env', fp', De, R, ht hb a d, br σ' env' fp' R c0⟩, fun hb => wHds_of lk R hd rf nd p1 e1 fp0 H0 p0 c0 hdn br (hf hb)⟩
  | (c, some i, th) :: r, ⟨b, eb, ht, hf⟩ => ⟨b, eb, fun hb a _ => by
    obtain ⟨hil, hth⟩ := ht hb
    obtain ⟨fp2, R2, sub⟩ := R.1.put (i := i) (v := .ref a) (s := .ow (.ref a) (excA K nf d fds)) (fi := [d]) hil ⟨rfl, rfl, fs, hd, rf⟩ (fun z m y => nd (by rw [List.mem_singleton.mp m] at y; exact y))
    have c2 : Ch nf fp0 H0 fp2 H' := ⟨c0.keep, fun z m => by
      rcases sub z m with y | y
      · rw [List.mem_singleton.mp y]; exact .inr hdn
      · exact c0.sub z y, c0.there, c0.tab⟩
    have RR : EnvR K nf H' (σ'.set i (some (.ref a))) (env'.set i (.ow (.ref a) (excA K nf d fds))) fp2 := ⟨R2, Anch.up p0 c2⟩
    have b2 := br _ _ fp2 RR c2
    refine ⟨C, d, rfl, rfl, _, fp2, unSlot i De, RR, hth a d, ?_⟩
    refine ⟨fun σ3 H3 env3 fp3 R3 c3 q3 => ?_, fun v dd σ3 H3 env3 fp3 r3 R3 c3 q3 => b2.rt v dd σ3 H3 env3 fp3 r3 R3 c3 q3, fun σ3 H3 env3 fp3 R3 c3 q3 => ?_, fun σ3 H3 env3 fp3 R3 c3 q3 => ?_, fun _ _ _ _ _ _ _ _ _ _ _ q3 => q3.elim⟩
    · obtain ⟨fp4, R4, c4⟩ := R3.forget none i
      exact b2.nx _ H3 _ fp4 R4 (c3.trans c4) q3
    · obtain ⟨fp4, R4, c4⟩ := R3.forget none i
      exact b2.bk _ H3 _ fp4 R4 (c3.trans c4) q3
    · obtain ⟨fp4, R4, c4⟩ := R3.forget none i
      exact b2.ct _ H3 _ fp4 R4 (c3.trans c4) q3, fun hb => wHds_of lk R hd rf nd p1 e1 fp0 H0 p0 c0 hdn br (hf hb)⟩
theorem ds_tryH (hs : X.stack = X.env :: X.outer) (hf : X.env.frame = some X.env.locals) (tk : Takes X Wout) (lk : Link X.K nf Wout xcO)
    (hb : ∀ (A : Anch nf) (W : WX) (xc : XcD nf) (pn : List (Addr × Obj)) (xe : Value → Shared → Prop), (∀ fp H, A.p fp H → AO.p fp H) → Takes (X.tr pn xe) W → PassesOwn (model X.prog X.w) X.A X.env xe → @Link X.K nf A W xc → @DSs (X.tr pn xe) nf A body (tb xc))
    (hh : HdsD X nf (h₀ :: hds) l) : DS X nf (.Try body (h₀ :: hds) [] [] pos) (sTryH X.K tb l xcO) := bxU (by simp (disch := with_unfolding_all
  let tbW : WX → TS := fun W D σ H => ∃ (A : Anch nf) (xc : XcD nf), (∀ fp H, A.p fp H → AO.p fp H) ∧ @Link X.K nf A W xc ∧ @liftS X.K nf A (tb xc) D σ H
  refine ps_imp (ps_tryN (tb := tbW) hs hf tk (fun W pn xe t1 po => ⟨fun pins s σ H D I ⟨A, xc, hA, l, q⟩ => (hb A W xc pn xe hA t1 po l).run pins s σ H D I q⟩) hh.n) fun D σ H ⟨env, fp, De, R, q, br⟩ => ?_
  refine ⟨anchAt AO fp H, xcH X.K xcO De l, fun _ _ z => z.1, @Link.mk _ _ (anchAt AO fp H) _ _ (fun {C d fs fds σ' H' env' fp'} R' hd rf nd z1 z2 => ?_), env, fp, De, ⟨R.1, R.2, Ch.refl⟩, q, ?_⟩
  · obtain ⟨fp1, H1, p1, e1⟩ := z1
    have p1' : AO.p fp1 H1 ∧ Ch nf fp H fp1 H1 := p1
    have c' : Ch nf fp H fp' H' := R'.2.2
    exact wHds_of lk ⟨R'.1, R'.2.1⟩ hd rf nd p1'.1 e1 fp H R.2 c' (p1'.2.there d e1) (fun σ2 env2 fp2 R2 c2 => ⟨fun σ3 H3 env3 fp3 R3 c3 q3 => br.nx σ3 H3 env3 fp3 R3 (c2.trans c3) q3, fun v dd σ3 H3 env3 fp3 r3 R3 c3 q3 => br.rt v dd σ3 H3 env3 fp3 r3 R3 (c2.trans c3) q3, fun σ3 H3 env3 fp3 R3 c3 q3 => br.bk σ3 H3 env3 fp3 R3 (c2.trans c3) q3, fun σ3 H3 env3 fp3 R3 c3 q3 => br.ct σ3 H3 env3 fp3 R3 (c2.trans c3) q3,
      fun v A σ3 H3 env3 fp3 fi hi R3 n3 c3 q3 => br.ro v A σ3 H3 env3 fp3 fi hi R3 n3 (c2.trans c3) q3⟩) z2
  · exact @Br.mk _ _ (anchAt AO fp H) _ _ _ _ (fun σ3 H3 env3 fp3 R3 c3 q3 => br.nx σ3 H3 env3 fp3 ⟨R3.1, R3.2.1⟩ c3 q3) (fun v dd σ3 H3 env3 fp3 r3 R3 c3 q3 => br.rt v dd σ3 H3 env3 fp3 r3 ⟨R3.1, R3.2.1⟩ c3 q3) (fun σ3 H3 env3 fp3 R3 c3 q3 => br.bk σ3 H3 env3 fp3 ⟨R3.1, R3.2.1⟩ c3 q3) (fun σ3 H3 env3 fp3 R3 c3 q3 => br.ct σ3 H3 env3 fp3 ⟨R3.1, R3.2.1⟩ c3 q3)
      (fun v A σ3 H3 env3 fp3 fi hi R3 n3 c3 q3 => br.ro v A σ3 H3 env3 fp3 fi hi ⟨R3.1, R3.2.1⟩ n3 c3 q3)) only [bxI])
end
theorem tabUp {nf : NFs} {AO A : Anch nf} (h : ∀ fp H, A.p fp H → AO.p fp H) (tb : @TabAnch nf AO) : @TabAnch nf A := @TabAnch.mk nf A fun p => tb.tab (h _ _ p)
def toSpXT (K : PySem.W.Frag) (nf : NFs) (n : Nat) (S : SpX nf) : Sp := fun vs H Q E => TabsA nf H ∧ toSpX K nf n S vs H Q E
section
variable {X : Cx} {nf : NFs}
theorem body_okXT {body : List Stmt} {td : XcD nf → DTS nf} {N : List Str} {n : Nat} {S : SpX nf} {E : XK} (h : ∀ (A : Anch nf) (xc : XcD nf), @TabAnch nf A → @Link X.K nf A (fun cls d _ H => E cls d H) xc → @DSs X nf A body (td xc)) (hn : n ≤ N.length)
    (hb : ∀ as Qd Xd, as.length = n → S as Qd Xd → td (fnXc as Xd) (fnEnds as Qd) (as ++ List.replicate (N.length - n) .un))
    {vs : List V} {H : Hp} {Q : VK} (hs : toSpXT X.K nf n S vs H Q E) : ∃ t, PSs X body t ∧ t { nx := fun _ H' => Q .non H', rt := Q } (start N vs) H := bxU (by simp (disch := with_unfolding_all
  obtain ⟨ht, hv, as, fp, Qd, Xd, hl, R, s, k, kx⟩ := hs
  let A : Anch nf := ⟨fun fp' H' => Ch nf fp H fp' H', fun p c => p.trans c⟩
  have R0 : EnvL X.K nf H (start N vs) (as ++ List.replicate (N.length - n) .un) fp := by
    have := R.pad (N.length - n)
    rw [← hv] at this ⊢
    exact this
  have L : @Link X.K nf A (fun cls d _ H => E cls d H) (fnXc as Xd) := ⟨fun {C d fs fds σ H' env fp'} RR hd rf nd ⟨fp1, H1, p1, e1⟩ ⟨b, q⟩ => by
    have c : Ch nf fp H fp' H' := RR.2
    obtain ⟨fq, R2, sub⟩ := EnvL.back (c.stpL R0) R RR.1 b
    exact kx C d fs fds H' _ fq (by rw [back_len, hl]) R2 ⟨c.keep, fun a m => c.sub a (sub a m), c.there, c.tab⟩ hd rf (fun m => nd (sub d m)) ((show Ch nf fp H fp1 H1 from p1).there d e1) q⟩
  refine ⟨_, h A (fnXc as Xd) ⟨fun p => ht.ch p⟩ L, as ++ List.replicate (N.length - n) .un, fp, fnEnds as Qd, ⟨R0, (Ch.refl : Ch nf fp H fp H)⟩, hb as Qd Xd hl s, ?_⟩
  refine ⟨fun σ' H' env' fp' R' c ⟨b, q⟩ => ?_, fun v d σ' H' env' fp' r R' c ⟨b, q⟩ => ?_, fun σ' H' env' fp' R' c q => q.elim, fun σ' H' env' fp' R' c q => q.elim, fun _ _ _ _ _ _ _ _ _ _ _ q => q.elim⟩
  · obtain ⟨fq, R2, sub⟩ := EnvL.back (c.stpL R0) R R'.1 b
    exact k .non H' .non _ fq (by rw [back_len, hl]) .non R2 ⟨c.keep, fun a m => c.sub a (sub a m), c.there, c.tab⟩ q
  · obtain ⟨fq, R2, sub⟩ := EnvL.back (c.stpL R0) R R'.1 b
    exact k v H' d _ fq (by rw [back_len, hl]) r R2 ⟨c.keep, fun a m => c.sub a (sub a m), c.there, c.tab⟩ q) only [bxI])
end
section
variable {X : Cx} {nf : NFs} [Anch nf] {W : WX} {xc : XcD nf} {k n : Nat} {f C : Addr} {fd : FuncData} {ps : List Str} {S : SpX nf} {dvs : List V} {dds : List D} {ds : List Value} {x m : Str} {p pos apos : Pos} {e o : Expr} {es : List Expr} {r : DM nf} {da : DT nf}
theorem de_callXT (tb : TabAnch nf) (F : FnOk X.prog X.w X.K X.mg X.base (L2.CX X.prog X.w) k f fd ps (toSpXT X.K nf n S)) (hr : Room k X.A) (hg : Gl X x) (hm : X.mg x = some (.ref f)) (hk : PySem.W.keepIn X.K (.ref f) = true) (hb : Binds X.K fd ps ds) (hd : Vals dvs ds) (hdd : ∀ H, Rels X.K nf H dvs dds) (tk : Takes X W) (lk : Link X.K nf W xc)
    (ha : DAM X nf (e :: es) r) (hdb : (x == ("__debug__" : Str)) = false := by decide) (he : starEach (e :: es) X.env = (false, eval e X.env) :: starEach es X.env := by rfl) (hpl : (backTo pos (starEach es X.env)).any (·.1) = false := by rfl) :
    DE X nf (.Call (.Name x p) (e :: es) [] pos) (dCallX xc n S dds r) := pe_imp (pe_callSD (E := WE W) F hr hg hm hk hb hd (fun σ => passAt tk σ) ha hdb he hpl) fun σ H Q h => by
  obtain ⟨env, fp, Qd, R, h, k⟩ := h
  refine ⟨env, fp, _, R, h, fun vs H1 ads env1 fp1 r1 R1 c1 ⟨hl, nd, hin, s⟩ => ⟨tb.tab R1.2, ?_⟩⟩
  exact spX_run lk R1 (r1.app id (hdd H1)) (by rw [List.length_append, List.length_map, hl]) nd hin s fun v H' d env' fp' r' R' c' q => k v H' d env' fp' r' R' (c1.trans c') q
end
end DL
namespace DL
open PySem L2
def xc0 {nf : NFs} : XcD nf := fun _ _ _ => False
theorem lk0 {nf : NFs} [Anch nf] {K : PySem.W.Frag} : Link K nf (fun _ _ _ _ => False) (xc0 : XcD nf) := ⟨fun _ _ _ _ _ q => q⟩
theorem tk0 {X : Cx} : Takes X (fun _ _ _ _ => False) := takes_none5
section
variable {X : Cx} {nf : NFs} [Anch nf] {W : WX} {xc : XcD nf}
theorem ds_raiseE {C : Addr} {fl : List Str} {k : Nat} {x : Str} {a : Expr} {as : List Expr} {r : DAs nf} {p pos pos' : Pos} (tk : Takes X W) (lk : Link X.K nf W xc) (S : SupE X.K X.prog C fl) (hr : Room k X.A) (hg : Gl X x) (hm : X.mg x = some (.ref C)) (hms : X.mg "super" = none) (ha : DA X nf (a :: as) r)
    (hc : X.calm = true := by rfl) (hdb : (x == ("__debug__" : Str)) = false := by decide) (he : starEach (a :: as) X.env = (false, eval a X.env) :: starEach as X.env := by rfl) (hpl : (backTo pos (starEach as X.env)).any (·.1) = false := by rfl) :
    DS X nf (.Raise (some (.Call (.Name x p) (a :: as) [] pos)) none pos') (sRaise xc C fl r) := bxU (by simp (disch := with_unfolding_all
  obtain ⟨fI, fd, S⟩ := S
  exact ds_raise hc tk lk (fun h => pmk_sup S hr hg hm hms h hdb he hpl) ha) only [bxI])
variable {i : Nat} {a C d : Addr} {oe : Obj} {pn : List (Addr × Obj)} {x : Str} {p p2 pos : Pos} {e : Expr}
/-- isinstance(e, T), T a built-in type -/
def dExIsT (K : PySem.W.Frag) (a C d : Addr) (i : Nat) (T : String) : DT nf := fun env Q => ExI K C ∧ ∃ fds b, env[i]? = some (.ow (.ref a) (excA K nf d fds)) ∧ PySem.W.kitOne K (.ref C) (.type T) = some b ∧ Q (.bl b) env
end
section
variable {nf : NFs} {K : PySem.W.Frag} {De : EndsD nf} {env env' env1 : EV nf} {i j n : Nat} {d x y z : D} {da db : DT nf} {ra : DAs nf} {rm : DM nf} {Q : D → EV nf → Prop} {xc : XcD nf}
def RaiseK (xc : XcD nf) (C : Addr) (ms : List Str) : List D → EV nf → Prop := fun ds env1 => ds.length = ms.length ∧ xc C (ms.zip ds) env1
theorem sRaise_s {C : Addr} {ms : List Str} (h : ra env (RaiseK xc C ms)) : sRaise xc C ms ra De env := h
theorem raiseK_s {C : Addr} {ms : List Str} {ds : List D} {fds : List (Str × D)} (hl : Nat.beq ds.length ms.length = true) (e : ms.zip ds = fds) (h : xc C fds env) : RaiseK xc C ms ds env := ⟨Nat.eq_of_beq_eq_true hl, e ▸ h⟩
def PutXK (env : EV nf) (ads : List AD) (xc : XcD nf) : Addr → List (Str × D) → List (SD nf) → Prop := fun C fds as' => xc C fds (putBack env ads as')
theorem putXK_s {ads : List AD} {as' : List (SD nf)} {C : Addr} {fds : List (Str × D)} (e : putBack env ads as' = env') (h : xc C fds env') : PutXK env ads xc C fds as' := bxU (by simp (disch := with_unfolding_all (show xc C fds (putBack env ads as'); rw [e]; exact h)) only [bxI])
def CallXK (n : Nat) (S : SpX nf) (dds : List D) (xc : XcD nf) (Q : D → EV nf → Prop) : List AD → EV nf → Prop := fun ads env1 => ads.length + dds.length = n ∧ (slotsOf (ads ++ dds.map AD.v)).Nodup ∧ (∀ i ∈ slotsOf (ads ++ dds.map AD.v), i < env1.length) ∧
  S ((ads ++ dds.map AD.v).map (resolve env1)) (PutK env1 (ads ++ dds.map AD.v) Q) (PutXK env1 (ads ++ dds.map AD.v) xc)
theorem dCallX_s {S : SpX nf} {dds : List D} (h : rm env (CallXK n S dds xc Q)) : dCallX xc n S dds rm env Q := h
theorem callXK_s {S : SpX nf} {dds : List D} {ads ads' : List AD} {as : List (SD nf)} (h1 : ads.length + dds.length = n) (e1 : ads ++ dds.map AD.v = ads') (h2 : ndB (slotsOf ads') = true) (h3 : (slotsOf ads').all (fun i => Nat.blt i env.length) = true)
    (e2 : ads'.map (resolve env) = as) (h : S as (PutK env ads' Q) (PutXK env ads' xc)) : CallXK n S dds xc Q ads env := bxU (by simp (disch := with_unfolding_all (subst e1; subst e2; exact ⟨h1, nd_of h2, ofAll h3, h⟩)) only [bxI])
theorem sTryH_s {tb : XcD nf → DTS nf} {l : List (HdD nf)} {xcO : XcD nf} (h : tb (xcH K xcO De l) De env) : sTryH K tb l xcO De env := h
variable {C : Addr} {fds : List (Str × D)} {c : Value} {th : Addr → Addr → Addr → DTS nf} {r : List (HdD nf)} {xcO : XcD nf}
theorem xcHas_s {i : Nat} {env' : Addr → Addr → EV nf} (e : PySem.W.exmOne K (.ref C) c = some true) (hl : Nat.blt i env.length = true) (e2 : ∀ a d, env.set i (.ow (.ref a) (excA K nf d fds)) = env' a d) (h : ∀ a d, th a C d (unSlot i De) (env' a d)) : xcH K xcO De ((c, some i, th) :: r) C fds env :=
  ⟨true, e, fun _ => ⟨Nat.blt_eq.mp hl, fun a d => by rw [e2 a d]; exact h a d⟩, fun z => (nomatch z)⟩
theorem unSlotNx_s (e : env.set i .un = env') (h : De.nx env') : (unSlot i De).nx env := bxU (by simp (disch := with_unfolding_all (show De.nx (env.set i .un); rw [e]; exact h)) only [bxI])
variable {a C' dx : Addr} {f : Str}
theorem dExF_s {f' : List Str} {fds : List (Str × D)} (E : ErrC K C f') (hf : f ∈ f') (e : env[i]? = some (.ow (.ref a) (excA K nf dx fds))) (e2 : fds.lookup f = some x) (h : Q x env) : dExF K a C dx i f env Q := ⟨E.1, E.2 f hf, fds, x, e, e2, h⟩
theorem dExIs_s {T : Addr} {b : Bool} {fds : List (Str × D)} (E : ExI K C) (e : env[i]? = some (.ow (.ref a) (excA K nf dx fds))) (hk : PySem.W.kitOne K (.ref C) (.ref T) = some b) (h : Q (.bl b) env) : dExIs K a C dx i T env Q := ⟨E, fds, b, e, hk, h⟩
theorem dExIsT_s {T : String} {b : Bool} {fds : List (Str × D)} (E : ExI K C) (e : env[i]? = some (.ow (.ref a) (excA K nf dx fds))) (hk : PySem.W.kitOne K (.ref C) (.type T) = some b) (h : Q (.bl b) env) : dExIsT K a C dx i T env Q := ⟨E, fds, b, e, hk, h⟩
theorem fnXc_s {as as' : List (SD nf)} {Xd : Addr → List (Str × D) → List (SD nf) → Prop} (hb : BackOk as env) (e : back as env = as') (h : Xd C fds as') : fnXc as Xd C fds env := ⟨hb, by rw [e]; exact h⟩
end
end DL
namespace DL
open PySem L2
mutual
theorem eqv_py : ∀ {d : D} {p : PyData}, pyOf d = some p → PyData.eqv p p = true
  | .non, _, h => by simp only [pyOf] at h; cases h; simp [PyData.eqv]
  | .bl _, _, h => by simp only [pyOf] at h; cases h; simp [PyData.eqv]
  | .int _, _, h => by simp only [pyOf] at h; cases h; simp [PyData.eqv]
  | .str _, _, h => by simp only [pyOf] at h; cases h; simp [PyData.eqv]
  | .ty _, _, h => by simp only [pyOf] at h; cases h
  | .cls _, _, h => by simp only [pyOf] at h; cases h
  | .scr _, _, h => by simp only [pyOf] at h; cases h
  | .fn0 _ _, _, h => by simp only [pyOf] at h; cases h
  | .dct _, _, h => by simp only [pyOf] at h; cases h
  | .obj _ _, _, h => by simp only [pyOf] at h; cases h
  | .exc _ _, _, h => by simp only [pyOf] at h; cases h
  | .fn _ _, _, h => by simp only [pyOf] at h; cases h
  | .tup xs, _, h => by
    cases e : pyOfs xs with
    | none => simp only [pyOf, e] at h; cases h
    | some ps =>
      simp only [pyOf, e] at h
      obtain rfl := Option.some.inj h
      simp only [PyData.eqv]
      exact eqvs_py e
  | .lst xs, _, h => by
    cases e : pyOfs xs with
    | none => simp only [pyOf, e] at h; cases h
    | some ps =>
      simp only [pyOf, e] at h
      obtain rfl := Option.some.inj h
      simp only [PyData.eqv]
      exact eqvs_py e
theorem eqvs_py : ∀ {ds : List D} {ps : List PyData}, pyOfs ds = some ps → PyData.eqvAll ps ps = true
  | [], _, h => by simp only [pyOfs] at h; cases h; simp [PyData.eqvAll]
  | d :: ds, _, h => by
    simp only [pyOfs] at h
    cases e : pyOf d with
    | none => rw [e] at h; cases h
    | some p =>
      rw [e] at h
      cases e2 : pyOfs ds with
      | none => rw [e2] at h; cases h
      | some ps =>
        rw [e2] at h
        obtain rfl := Option.some.inj h
        simp only [PyData.eqvAll, eqv_py e, eqvs_py e2]
        rfl
end
section
variable {nf : NFs} {K : PySem.W.Frag} {env : EV nf} {Q : D → EV nf → Prop} {x : D} {n : Nat}
theorem eqP_s (h : plD n x) (hn : n ≤ 64) (q : Q (.bl true) env) : OpK (eqQ false) Q x x env := bxU (by simp (disch := with_unfolding_all
  obtain ⟨p, e, sh⟩ := h.shaped hn
  exact eqDF_s e e sh sh (by rw [eqv_py e]; exact q)) only [bxI])
theorem neP_s (h : plD n x) (hn : n ≤ 64) (q : Q (.bl false) env) : OpK (eqQ true) Q x x env := bxU (by simp (disch := with_unfolding_all
  obtain ⟨p, e, sh⟩ := h.shaped hn
  exact eqDT_s e e sh sh (by rw [eqv_py e]; exact q)) only [bxI])
end
end DL
namespace DL
open PySem PySem.Spec L2
open PyProof.Rows hiding St
theorem roomE {k : Nat} {A : Around} {h : Option Value} (r : Room k A) : L2H.RoomH k (A.mark h) := ⟨r.dp, r.un⟩
section
variable {P : Program} {w : World} {K : PySem.W.Frag} {mg : Str → Option Value} {base : Heap}
theorem FnE.mono {CX : CXT} {j k : Nat} {f : Addr} {fd : FuncData} {ps : List Str} {sp : Addr → Addr → Addr → Sp} (F : FnE P w K mg base CX j f fd ps sp) (h : j ≤ k) : FnE P w K mg base CX k f fd ps sp :=
  ⟨F.len, fun p C d A out s H ar us vs Q E hr => F.run p C d A out s H ar us vs Q E (hr.mono h)⟩
theorem fun_okE {x qual : Str} {st : Stmt} {f : Addr} {fd : FuncData} {N ps : List Str} {k : Nat} {sp : Addr → Addr → Addr → Sp} (F : Fun K x qual st f fd) (S : FnScope N ps (defScope st)) (len : ∀ a C d vs H Q E, sp a C d vs H Q E → vs.length = ps.length)
    (hb : ∀ (cdv : Value) (p : Addr × Obj) (C d : Addr) (A : Around) (outer : List Env) (s : Shared) (H : Hp) (vs : List V) (Q : VK) (E : XK), Zc (.ref C) (some d) p.2 → (∃ fv, p.2.data = .fields fv) → L2H.RoomH k (A.deeper (envOfC qual (defScope st) s.heap.objs.size f cdv)) → sp p.1 C d vs H Q E →
      ∃ t, PSs (L2H.cxH CX0 P w K mg base N qual (defScope st) f cdv A outer s H E p).nox (defBody st) t ∧ t { nx := fun _ H' => Q .non H', rt := Q } (L2.start N vs) H) : FnE P w K mg base CX0 (k + 1) f fd ps sp := bxU (by simp (disch := with_unfolding_all
  obtain ⟨oc, od, kV, doc, pm, an, cdv, ct, osl, rfl, lk, hcd⟩ := F.ex
  exact fnE_of lk hcd S len fun p C d A out s H vs Q E hz hf hr h => by
    obtain ⟨t, z, q⟩ := hb cdv p C d A out s H vs Q E hz hf hr h
    exact ⟨t, z.nox, q⟩) only [bxI])
end
section
variable {X : Cx} {nf : NFs} [Anch nf] {x : Str} {pos : Pos} {e : Expr} {a C d : Addr} {oe : Obj} {i : Nat} {p : Pos}
theorem de_exIsPT {T : String} {t : Expr} (hp : (a, oe) ∈ X.pn) (hz : Zc (.ref C) (some d) oe) (hf : ∃ vs, oe.data = .fields vs) (hgi : Gl X "isinstance") (hmi : X.mg "isinstance" = none) (he : PE X e (tVar i)) (ht : PE X t (tC (.ty T)))
    (hs : starEach [e, t] X.env = (false, eval e X.env) :: starEach [t] X.env := by rfl) (hs2 : starEach [t] X.env = (false, eval t X.env) :: starEach [] X.env := by rfl) (hpl : (backTo pos (starEach [t] X.env)).any (·.1) = false := by rfl) :
    DE X nf (.Call (.Name "isinstance" p) [e, t] [] pos) (dExIsT X.K a C d i T) := by
  have cr : CallR X (.builtin "isinstance") (fun xs H Q => ExI X.K C ∧ ∃ fs b, xs = [.ref a, .ty T] ∧ H d = some (.xd fs) ∧ PySem.W.kitOne X.K (.ref C) (.type T) = some b ∧ Q (.bl b) H) := by
    intro pins s σ H xs us Q I r h
    obtain ⟨E, fs, b, rfl, hd, hk, q⟩ := h
    obtain ⟨u1, u2, rfl, r1, r2⟩ := vals2 r
    obtain rfl : u1 = Value.ref a := r1
    obtain rfl : u2 = Value.type T := r2
    obtain ⟨od, mA, J, _, _⟩ := exc_atP I hp hz hf hd
    exact PySem.W.kia_one (PySem.W.kitx_exc E.cl E.ga E.gg E.ex E.ha E.hn E.htk E.hm) I.kIn J hk (fun z => nomatch z) fun tk => ⟨.bl b, H, I.tok tk, rfl, q⟩
  refine pe_imp (pe_callB cr hgi hmi (by decide +kernel) (pa_cons he (pa_cons ht pa_nil hs2) hs) (by decide) (by decide) hs hpl) fun σ H Q h => ?_
  obtain ⟨env, fp, Qd, R, ⟨T', fds, b, e1, hk, q⟩, k⟩ := h
  obtain ⟨es, fs, hd, rf⟩ := R.excAt e1
  exact ⟨_, es, T', fs, b, rfl, hd, hk, k _ H _ env fp (.bl b) R Ch.refl q⟩
theorem pe_cls {T : Addr} (hg : Gl X x) (hm : X.mg x = some (.ref T)) (hd : (x == ("__debug__" : Str)) = false := by decide) : PE X (.Name x pos) (tC (.ref T)) := pe_glob hg hm rfl hd
theorem pe_tyB {T : String} (hg : Gl X x) (hm : X.mg x = none) (hv : bootBuiltins x = some (.type T)) (hn : x ≠ "__name__" := by decide) (hd : (x == ("__debug__" : Str)) = false := by decide) : PE X (.Name x pos) (tC (.ty T)) := pe_bltn (v := .ty T) hg hm hv rfl hn hd
variable {da : DT nf}
end
end DL
namespace DL
open PySem L2
end DL
namespace DL
open PySem L2
theorem s_app (x y : Str) : (x ++ y).cps.toList = x.cps.toList ++ y.cps.toList := bxU (by simp (disch := with_unfolding_all (rw [Str.cps_append, Array.toList_append])) only [bxI])
theorem s_len (x : Str) : x.length = x.cps.toList.length := by simp [Str.length]
theorem s_lapp (x y : Str) : (x ++ y).length = x.length + y.length := bxU (by simp (disch := with_unfolding_all (rw [s_len, s_len, s_len, s_app, List.length_append])) only [bxI])
end DL
namespace DL
open PySem L2
end DL
namespace DL
open PySem L2
section
variable {X : Cx} {CX : CXT} {k : Nat} {f C : Addr} {fd : FuncData} {ps : List Str} {sp : Sp} {ds : List Value} {dvs : List V} {x : Str} {p pos : Pos} {e : Expr} {es : List Expr} {t : TA} {op : Operator} {a b : Expr} {ta tb : TE}
/-- an operator whose reading knows the slots -/
theorem pe_opS {r : St → R2} (ho : ∀ (σ : St) (pins : List (Addr × Obj)) (s : Shared) (H : Hp) (x y : V) (v u : Value) (Q : VK), Inv X pins σ H s → RelV x v → RelV y u → r σ x y H Q → wpAny (model X.prog X.w) X.A (binaryOp op v u) (EP X pins σ Q) X.xe s) (ha : PE X a ta) (hb : PE X b tb) :
    PE X (.BinOp a op b pos) (fun σ H Q => ta σ H fun x H1 => tb σ H1 fun y H2 => r σ x y H2 Q) := bxU (by simp (disch := with_unfolding_all
  refine ⟨fun pins s σ H Q I h => ?_⟩
  exact wpAny_BinOp (binT (R := fun x y H => r σ x y H Q) ha hb I h fun v u s2 x y H2 I2 rx ry q => ho σ pins s2 H2 x y v u Q I2 rx ry q)) only [bxI])
theorem run_makeS {pins : List (Addr × Obj)} {σ : St} {H : Hp} {s : Shared} {Q : VK} {E : XK} {us : List Value} {vs : List V} (M : Mk X.K C f) (F : FnOk X.prog X.w X.K X.mg X.base CX k f fd ps sp) (hr : Room (k + 1) X.A) (hb : Binds X.K fd ps ds) (hd : Vals dvs ds)
    (hx : PassesAt CX X σ E) (I : Inv X pins σ H s) (r : Vals vs us)
    (h : ∀ x dx, H x = none → H dx = none → dx ≠ x → sp (.ref x :: (vs ++ dvs)) (upd (upd H dx (.own x)) x (.ins C dx [])) (fun v H2 => v = .non ∧ Q (.ref x) H2) E) :
    wpAny (model X.prog X.w) X.A (call (.ref C) us) (EP X pins σ Q) X.xe s := bxU (by simp (disch := with_unfolding_all
  have hq := h (s.heap.objs.size + 1) s.heap.objs.size (I.hok.fresh (Nat.le_succ _)) (I.hok.fresh (Nat.le_refl _)) (Nat.ne_of_lt (Nat.lt_succ_self _))
  have I2 := Inv.made (C := C) I
  have r2 : Vals (V.ref (s.heap.objs.size + 1) :: (vs ++ dvs)) (Value.ref (s.heap.objs.size + 1) :: (us ++ ds)) := .cons rfl (r.append hd)
  have hl : (Value.ref (s.heap.objs.size + 1) :: us ++ ds).length = ps.length := by
    have e := r2.length
    rw [F.len _ _ _ _ hq] at e
    exact e.symm
  refine wpAny_call (make_map (f := f) I.kIn M.makes M.init (beq_iff_eq.mp M.fn) (codeAny_mono (F.run _ X.stack _ _ ⟨Value.ref (s.heap.objs.size + 1) :: us, []⟩ (Value.ref (s.heap.objs.size + 1) :: (us ++ ds)) _ _ E (hr.make C us [])
    (I2.env0.make C us []) (hb _ (Value.ref (s.heap.objs.size + 1) :: us) I2.kIn hl) r2 hq) fun r s' hq' => ?_))
  cases r with
  | error e => exact hx pins _ _ e s' I2 hq'
  | ok fl =>
    cases fl with
    | ret u =>
      obtain ⟨v, H', I3, rv, ev, q3⟩ := I2.after hq'
      subst ev
      exact ⟨rv, ⟨V.ref (s.heap.objs.size + 1), H', I3, rfl, q3⟩⟩
    | next => exact False.elim hq'
    | brk => exact False.elim hq'
    | cont => exact False.elim hq') only [bxI])
/-- C(..) whose __init__ may raise -/
def tMakeS (C : Addr) (sp : Sp) (dvs : List V) (E : St → XK) (t : TA) : TE := fun σ H Q => t σ H fun vs H1 => ∀ x dx, H1 x = none → H1 dx = none → dx ≠ x → sp (.ref x :: (vs ++ dvs)) (upd (upd H1 dx (.own x)) x (.ins C dx [])) (fun v H2 => v = .non ∧ Q (.ref x) H2) (E σ)
theorem pe_makeS {E : St → XK} (M : Mk X.K C f) (F : FnOk X.prog X.w X.K X.mg X.base CX k f fd ps sp) (hr : Room (k + 1) X.A) (hg : Gl X x) (hm : X.mg x = some (.ref C)) (hb : Binds X.K fd ps ds) (hd : Vals dvs ds) (hx : ∀ σ, PassesAt CX X σ (E σ))
    (ha : PA X (e :: es) t) (hdb : (x == ("__debug__" : Str)) = false := by decide) (he : starEach (e :: es) X.env = (false, eval e X.env) :: starEach es X.env := by rfl) (hpl : (backTo pos (starEach es X.env)).any (·.1) = false := by rfl) :
    PE X (.Call (.Name x p) (e :: es) [] pos) (tMakeS C sp dvs E t) := bxU (by simp (disch := with_unfolding_all
  refine ⟨fun pins s σ H Q I h => ?_⟩
  refine wpAny_Call_Name_kw (ld_glob I hg hm ?_ hdb)
  refine PySem.W.callWith_K (h₀ := X.base) I.ok.mod.kin M.kp (thn (ha.run pos pins s σ H _ I h) fun us s1 ⟨vs, H1, I1, r, q⟩ => ⟨I1.kIn, ?_⟩) he hpl
  exact run_makeS M F hr hb hd (hx σ) I1 r q) only [bxI])
end
section
variable {X : Cx} {nf : NFs} [Anch nf] {K : PySem.W.Frag} {W : WX} {xc : XcD nf} {k n : Nat} {f g C : Addr} {fd : FuncData} {ps : List Str} {S : SpX nf} {dvs : List V} {dds : List D} {ds : List Value} {x m : Str} {p pos apos : Pos} {e : Expr} {es : List Expr} {r : DM nf} {da db : DT nf} {op : Operator} {a b : Expr}
/-- x op y by x's method (or y's reflected one), which may raise -/
def dOwnX (xc : XcD nf) (rev : Bool) (P : D → D → Prop) (S : SpX nf) (da db : DT nf) : DT nf := fun env Q => da env fun x env1 => db env1 fun y env2 => P x y ∧ S (if rev then [.fz y, .fz x] else [.fz x, .fz y]) (fun d _ => Q d env2) fun C' fds _ => xc C' fds env2
theorem lift_ownX {rev : Bool} {P : D → D → Prop} (tb : TabAnch nf) (lk : Link K nf W xc) {r : St → R2} (hr : ∀ σ H v w x y Q, Rel K nf H v x → Rel K nf H w y → P x y → toSpXT K nf 2 S (if rev then [w, v] else [v, w]) H Q (WE W σ) → r σ v w H Q)
    (σ : St) (H : Hp) (Q : VK) (h : lift K nf (dOwnX xc rev P S da db) σ H Q) : lift K nf da σ H fun x H1 => lift K nf db σ H1 fun y H2 => r σ x y H2 Q := bxU (by simp (disch := with_unfolding_all
  obtain ⟨env, fp, Qd, R, h, k⟩ := h
  refine lift_run R h fun v H1 x env1 fp1 r1 R1 c1 h1 => lift_run R1 h1 fun w H2 y env2 fp2 r2 R2 c2 ⟨hP, hS⟩ => ?_
  have r1' := r1.mono (c2.stp R1)
  refine hr σ H2 v w x y Q r1' r2 hP ?_
  cases rev with
  | true => exact ⟨tb.tab R2.2, spX_run (ads := [.v y, .v x]) lk R2 (.val r2 (.val r1' .nil)) rfl List.nodup_nil (fun i m => by cases m) (by simp only [pb2]; exact hS) fun u H3 d env3 fp3 r3 R3 c3 q => k u H3 d env3 fp3 r3 R3 ((c1.trans c2).trans c3) q⟩
  | false => exact ⟨tb.tab R2.2, spX_run (ads := [.v x, .v y]) lk R2 (.val r1' (.val r2 .nil)) rfl List.nodup_nil (fun i m => by cases m) (by simp only [pb2]; exact hS) fun u H3 d env3 fp3 r3 R3 c3 q => k u H3 d env3 fp3 r3 R3 ((c1.trans c2).trans c3) q⟩) only [bxI])
theorem de_ownSX (tb : TabAnch nf) (F : FnOk X.prog X.w X.K X.mg X.base (L2.CX X.prog X.w) k f fd ps (toSpXT X.K nf 2 S)) (hr : Room k X.A) (hb : Binds X.K fd ps []) {r1 f1 o1 r2 f2 o2 : Option Value} (o : OpC X.K C op.info.2 f) (t1 : OpT X.K C op.info.2 "list" r1 f1 o1) (t2 : OpT X.K C op.info.2 "tuple" r2 f2 o2) (tk : Takes X W) (lk : Link X.K nf W xc) (ha : DE X nf a da) (hb' : DE X nf b db) :
    DE X nf (.BinOp a op b pos) (dOwnX xc false (fun x y => isO C x ∧ isSq y) S da db) :=
  pe_imp (pe_opS (r := fun σ x y H Q => (∃ a b dx fs, x = .ref a ∧ y = .ref b ∧ H a = some (.ins C dx fs) ∧ (TyX X.K H y (.type "list") ∨ TyX X.K H y (.type "tuple"))) ∧ toSpXT X.K nf 2 S [x, y] H Q (WE W σ)) (fun σ pins s H x y v u Q I rx ry ⟨⟨a, b, dx, fs, ex, ey, ha, hb'⟩, h⟩ => by
    subst ex ey
    cases rx; cases ry
    obtain ⟨m, hF⟩ := I.fr
    obtain ⟨mA, O, _⟩ := ins_get I.hok ha
    obtain ⟨od, J, _⟩ := O.look
    have run := wpAny_mono (run_fnSD (E := WE W) F hr hb .nil (passAt tk σ) I (.cons (rv_ref _) (.cons (rv_ref _) .nil)) h) (fun _ _ q => cmpBack_of q) fun _ _ e => e
    rcases hb' with ty | ty
    · obtain ⟨P, kx, hP, _⟩ := L2.kit_of I (rv_ref b) ty
      exact binT_looks hF I.mod.kin J (T := "list") (kx.ty _ _ I.kIn hP) o.sf o.hs o.hf t1.hr t1.hp t1.h1 t1.h2 t1.hsub run
    · obtain ⟨P, kx, hP, _⟩ := L2.kit_of I (rv_ref b) ty
      exact binT_looks hF I.mod.kin J (T := "tuple") (kx.ty _ _ I.kIn hP) o.sf o.hs o.hf t2.hr t2.hp t2.h1 t2.h2 t2.hsub run) ha hb')
  (lift_ownX tb lk fun σ H v w x y Q r1 r2 ⟨⟨fs, e1⟩, ⟨xs, e2⟩⟩ h => by
    subst e1
    cases r1 with
    | obj h1 _ _ _ =>
      rcases e2 with e2 | e2
      · subst e2
        have ty := ty_of (t := .type "list") (fun C fs z => by cases z) r2 rfl
        cases r2 with
        | lst h2 _ => exact ⟨⟨_, _, _, _, rfl, rfl, h1, .inl ty⟩, h⟩
      · subst e2
        have ty := ty_of (t := .type "tuple") (fun C fs z => by cases z) r2 rfl
        cases r2 with
        | tup h2 _ => exact ⟨⟨_, _, _, _, rfl, rfl, h1, .inr ty⟩, h⟩)
theorem de_sOwnX (tb : TabAnch nf) (F : FnOk X.prog X.w X.K X.mg X.base (L2.CX X.prog X.w) k g fd ps (toSpXT X.K nf 2 S)) (hr : Room k X.A) (hb : Binds X.K fd ps []) (o : OpB X.K C op.info.2 f g) (B : Bare op.info.2) (tk : Takes X W) (lk : Link X.K nf W xc) (ha : DE X nf a da) (hb' : DE X nf b db) :
    DE X nf (.BinOp a op b pos) (dOwnX xc true (fun x y => isSq x ∧ isO C y) S da db) :=
  pe_imp (pe_opS (r := fun σ x y H Q => (∃ a b dx fs xs, x = .ref a ∧ y = .ref b ∧ H b = some (.ins C dx fs) ∧ (SqL X.K H a xs ∨ SqT X.K H a xs)) ∧ toSpXT X.K nf 2 S [y, x] H Q (WE W σ)) (fun σ pins s H x y v u Q I rx ry ⟨⟨a, b, dx, fs, xs, ex, ey, ha, hq⟩, h⟩ => by
    subst ex ey
    cases rx; cases ry
    obtain ⟨m, hF⟩ := I.fr
    obtain ⟨mA, O, _⟩ := ins_get I.hok ha
    obtain ⟨od, J, _⟩ := O.look
    have go : ∀ T, s.TypeIs (.ref a) T → (fillsNumberSlot (.type T) op.info.2 : Sem Bool) = pure false → wpAny (model X.prog X.w) X.A (binaryOp op (.ref a) (.ref b)) (EP X pins σ Q) X.xe s := fun T hT hfl =>
      binR_bare hF I.mod.kin J hT hfl o.sf o.hs o.hr o.hf (wpAny_mono (run_fnSD (E := WE W) F hr hb .nil (passAt tk σ) I (.cons (rv_ref _) (.cons (rv_ref _) .nil)) h) (fun _ _ q => cmpBack_of q) fun _ _ e => e)
    rcases hq with hq | hq
    · obtain ⟨its, _, ⟨o2, n2, h1, h2, _⟩, _⟩ := I.list hq
      exact go "list" ⟨o2, h1, h2⟩ B.1
    · obtain ⟨its, _, pl, _⟩ := I.tuple hq
      exact go "tuple" pl.typeIs B.2) ha hb')
  (lift_ownX tb lk fun σ H v w x y Q r1 r2 ⟨⟨xs, e1⟩, ⟨fs, e2⟩⟩ h => by
    subst e2
    cases r2 with
    | obj h2 _ _ _ =>
      rcases e1 with rfl | rfl
      · cases r1 with
        | lst h1 _ => exact ⟨⟨_, _, _, _, _, rfl, rfl, h2, .inl h1.sq⟩, h⟩
      · cases r1 with
        | tup h1 _ => exact ⟨⟨_, _, _, _, _, rfl, rfl, h2, .inr h1⟩, h⟩)
def dMakeX (K : PySem.W.Frag) (xc : XcD nf) (n : Nat) (C : Addr) (S : SpX nf) (dds : List D) (r : DM nf) : DT nf := fun env Q => r env fun ads env1 => ads.length + dds.length + 1 = n ∧ 0 < nf C ∧ (slotsOf (ads ++ dds.map AD.v)).Nodup ∧ (∀ i ∈ slotsOf (ads ++ dds.map AD.v), i < env1.length) ∧
  ∀ y, S (.ow (.ref y) (insA K nf C []) :: (ads ++ dds.map AD.v).map (resolve env1)) (fun d as' => d = .non ∧ ∃ fds rest, as' = .fr (.ref y) (.obj C fds) :: rest ∧ Q (.obj C fds) (putBack env1 (ads ++ dds.map AD.v) rest)) fun C' fds' as' => ∃ s0 rest, as' = s0 :: rest ∧ xc C' fds' (putBack env1 (ads ++ dds.map AD.v) rest)
theorem make_runX {σ : St} {H : Hp} {Q : VK} {env : EV nf} {fp : List Addr} {vs : List V} {ads : List AD} {Qd : D → EV nf → Prop} (lk : Link K nf W xc) (R : EnvR K nf H σ env fp) (M : ArgsM K nf H σ vs ads) (hn : ads.length + 1 = n) (h0 : 0 < nf C)
    (nd : (slotsOf ads).Nodup) (hin : ∀ i ∈ slotsOf ads, i < env.length) (s : ∀ y, S (.ow (.ref y) (insA K nf C []) :: ads.map (resolve env)) (fun d as' => d = .non ∧ ∃ fds rest, as' = .fr (.ref y) (.obj C fds) :: rest ∧ Qd (.obj C fds) (putBack env ads rest)) fun C' fds' as' => ∃ s0 rest, as' = s0 :: rest ∧ xc C' fds' (putBack env ads rest))
    (k : ∀ v H' d env' fp', Rel K nf H' v d → EnvR K nf H' σ env' fp' → Ch nf fp H fp' H' → Qd d env' → Q v H') :
    ∀ y dx, H y = none → H dx = none → dx ≠ y → toSpX K nf n S (.ref y :: vs) (upd (upd H dx (.own y)) y (.ins C dx [])) (fun v H2 => v = .non ∧ Q (.ref y) H2) (WE W σ) := bxU (by simp (disch := with_unfolding_all
  intro y dx hy hdx hne
  obtain ⟨fpa, RA, put⟩ := R.args M nd hin
  have xt : Xt H (upd (upd H dx (.own y)) y (.ins C dx [])) := fun a u e => by
    rw [upd_ne (ne_of_none e hy), upd_ne (ne_of_none e hdx)]; exact e
  have nyA : y ∉ fpa := fun z => by obtain ⟨u, e, _⟩ := RA.trk y z; rw [hy] at e; cases e
  have ch1 : ∀ (f2 fp' : List Addr) (H' : Hp), (∀ a ∈ f2, a ∈ fp') → Ch nf ([y] ++ fpa) (upd (upd H dx (.own y)) y (.ins C dx [])) fp' H' → Ch nf fpa H f2 H' := fun f2 fp' H' sub c => ⟨fun a u e na nt => c.keep a u (xt a u e) (fun z => by
      rcases List.mem_append.mp z with z | z
      · rw [List.mem_singleton.mp z, hy] at e; cases e
      · exact na z) nt, fun a m => by
      rcases c.sub a (sub a m) with z | z
      · rcases List.mem_append.mp z with z | z
        · rw [List.mem_singleton.mp z]; exact .inr hy
        · exact .inl z
      · exact .inr ((xt.ch (nf := nf) (fp := fpa)).there a z), fun a e => (xt.ch (nf := nf) (fp := fpa)).there a (c.there a e), fun P h => c.tab P (h.ext xt)⟩
  refine ⟨by rw [List.length_cons, M.len, hn], .ow (.ref y) (insA K nf C []) :: ads.map (resolve env), [y] ++ fpa, _, _, by rw [List.length_cons, List.length_map, hn], .cons ⟨rfl, y, dx, [], rfl, rfl, upd_same, h0, .nil⟩ (RA.ext xt) (fun a m => by rw [List.mem_singleton.mp m]; exact nyA), s y, fun v H' d as' fp' hl r R' c q => ?_, fun C' d fs fds H' as' fp' hl R' c hd rf ndf hnew q => ?_⟩
  · obtain ⟨ed, fds, rest, ea, q⟩ := q
    subst ed ea
    refine ⟨rel_non r, ?_⟩
    cases R' with
    | @cons _ _ _ _ f1 f2 hs hr hd =>
      obtain ⟨e1, _, rel⟩ := hs
      subst e1
      obtain ⟨fp2, R2, c2, _⟩ := put H' rest f2 (by rw [List.length_cons] at hl; omega) hr (ch1 f2 _ H' (fun a m => List.mem_append_right _ m) c)
      exact k _ H' _ _ fp2 rel R2 c2 q
  · obtain ⟨s0, rest, ea, q⟩ := q
    subst ea
    cases R' with
    | @cons _ _ _ _ f1 f2 hs hr hd' =>
      obtain ⟨fp2, R2, c2, sub2, _⟩ := put H' rest f2 (by rw [List.length_cons] at hl; omega) hr (ch1 f2 _ H' (fun a m => List.mem_append_right _ m) c)
      have hnH : H d = none := by
        cases e : H d with
        | none => rfl
        | some u => rw [xt d u e] at hnew; cases hnew
      refine lk.to R2 hd rf (fun m => ?_) ⟨fp, H, R.2, hnH⟩ q
      rcases sub2 d m with z | ⟨z, _⟩
      · exact ndf (List.mem_append_right _ z)
      · obtain ⟨u, e, _⟩ := R.trk d z
        rw [hnH] at e; cases e) only [bxI])
theorem de_makeXT (tb : TabAnch nf) (M : Mk X.K C f) (F : FnOk X.prog X.w X.K X.mg X.base (L2.CX X.prog X.w) k f fd ps (toSpXT X.K nf n S)) (hr : Room (k + 1) X.A) (hg : Gl X x) (hm : X.mg x = some (.ref C)) (hb : Binds X.K fd ps ds) (hd : Vals dvs ds) (hdd : ∀ H, Rels X.K nf H dvs dds) (tk : Takes X W) (lk : Link X.K nf W xc)
    (ha : DAM X nf (e :: es) r) (hdb : (x == ("__debug__" : Str)) = false := by decide) (he : starEach (e :: es) X.env = (false, eval e X.env) :: starEach es X.env := by rfl) (hpl : (backTo pos (starEach es X.env)).any (·.1) = false := by rfl) :
    DE X nf (.Call (.Name x p) (e :: es) [] pos) (dMakeX X.K xc n C S dds r) := pe_imp (pe_makeS (E := WE W) M F hr hg hm hb hd (fun σ => passAt tk σ) ha hdb he hpl) fun σ H Q ⟨env, fp, Qd, R, h, k⟩ => by
  refine ⟨env, fp, _, R, h, fun vs H1 ads env1 fp1 r1 R1 c1 ⟨hl, h0, nd, hin, s⟩ => fun y dx hy hdx hne => ⟨?_, ?_⟩⟩
  · have xt : Xt H1 (upd (upd H1 dx (.own y)) y (.ins C dx [])) := fun a u e => by rw [upd_ne (ne_of_none e hy), upd_ne (ne_of_none e hdx)]; exact e
    exact (tb.tab R1.2).ch (xt.ch (nf := nf) (fp := fp1))
  · exact make_runX lk R1 (r1.app id (hdd H1)) (by rw [List.length_append, List.length_map]; exact hl) h0 nd hin s (fun v H' d env' fp' r' R' c' q => k v H' d env' fp' r' R' (c1.trans c') q) y dx hy hdx hne
def dMakeLX (K : PySem.W.Frag) (xc : XcD nf) (i n : Nat) (C : Addr) (S : SpX nf) (dds : List D) (r : DM nf) : DT nf := fun env Q => env[i]? = some (.fz (.cls C)) ∧ dMakeX K xc n C S dds r env Q
theorem de_makeLXT {E : XK} {i : Nat} (tb : TabAnch nf) (hN : X.N[i]? = some x) (hv : Vis X.env.scope x) (M : Mk X.K C f) (F : FnOk X.prog X.w X.K X.mg X.base (L2.CX X.prog X.w) k f fd ps (toSpXT X.K nf n S)) (hr : Room (k + 1) X.A) (hb : Binds X.K fd ps ds) (hd : Vals dvs ds) (hdd : ∀ H, Rels X.K nf H dvs dds)
    (tk : Takes X (fun cls d _ H => E cls d H)) (lk : Link X.K nf (fun cls d _ H => E cls d H) xc)
    (ha : DAM X nf (e :: es) r) (hdb : (x == ("__debug__" : Str)) = false := by decide) (hcd : (x == ("__classdict__" : Str)) = false := by decide) (he : starEach (e :: es) X.env = (false, eval e X.env) :: starEach es X.env := by rfl) (hpl : (backTo pos (starEach es X.env)).any (·.1) = false := by rfl) :
    DE X nf (.Call (.Name x p) (e :: es) [] pos) (dMakeLX X.K xc i n C S dds r) := pe_imp (pe_makeL M F hr hN hv hb hd (fun pins σ H s e s' I h => passAt tk σ pins H s e s' I h) ha hdb hcd he hpl) fun σ H Q ⟨env, fp, Qd, R, ⟨h1, h2⟩, k⟩ => by
  obtain ⟨o, fi, e1, s1, _, _⟩ := R.at h1
  obtain ⟨_, v, ev, rv⟩ := s1
  cases rv
  refine ⟨by rw [e1, ev], ?_⟩
  refine ⟨env, fp, _, R, h2, fun vs H1 ads env1 fp1 r1 R1 c1 ⟨hl, h0, nd, hin, s⟩ => fun y dx hy hdx hne => ⟨?_, ?_⟩⟩
  · have xt : Xt H1 (upd (upd H1 dx (.own y)) y (.ins C dx [])) := fun a u e => by rw [upd_ne (ne_of_none e hy), upd_ne (ne_of_none e hdx)]; exact e
    exact (tb.tab R1.2).ch (xt.ch (nf := nf) (fp := fp1))
  · exact make_runX (σ := σ) lk R1 (r1.app id (hdd H1)) (by rw [List.length_append, List.length_map]; exact hl) h0 nd hin s (fun v H' d env' fp' r' R' c' q => k v H' d env' fp' r' R' (c1.trans c') q) y dx hy hdx hne
def dCMethSX (xc : XcD nf) (C : Addr) (S : SpX nf) (da : DT nf) (ra : DAs nf) : DT nf := fun env Q => da env fun ob env0 => ob = .cls C ∧ ra env0 fun ds env1 => ds.length ≤ 1000000 ∧ S [.fz (.cls C), .fz (.tup ds)] (fun d _ => Q d env1) fun C' fds _ => xc C' fds env1
open ClX (CRead CMet) in
theorem de_cmethSX {E : XK} {o : Expr} {pr : Addr} {mc : Value} {ra : DAs nf} {pl : Sem Bool} (tb : TabAnch nf) (he : DE X nf o da) (cr : CRead X.K C mc) (cm : CMet X.K C mc m pr f) (F : FnR X.prog X.w X.K X.mg X.base (L2.CX X.prog X.w) k f (starSp 1 (toSpXT X.K nf 2 S))) (hr : Room k X.A)
    (tk : Takes X (fun cls d _ H => E cls d H)) (lk : Link X.K nf (fun cls d _ H => E cls d H) xc) (ha : DA X nf (e :: es) ra)
    (hst : starEach (e :: es) X.env = (false, eval e X.env) :: starEach es X.env := by rfl) (hpl : (backTo pos (starEach es X.env)).any (·.1) = false := by rfl)
    (ht : eval (.Call (.Attribute o m apos) (e :: es) [] pos) X.env = (do
      let ov ← eval o X.env
      standAt apos.atName
      let (f, first) ← holding [ov] (getMethod ov m pl)
      callWith pos f first (backTo pos (starEach (e :: es) X.env)) (backToKw pos (keywordEach [] X.env))) := by rfl) :
    DE X nf (.Call (.Attribute o m apos) (e :: es) [] pos) (dCMethSX xc C S da ra) := pe_imp (ClX.pe_cmeth (pl := pl) he cr cm F hr (fun pins σ H s e s' I h => passAt tk σ pins H s e s' I h) ha hst hpl ht) fun σ H Q ⟨env, fp, Qd, R, h, k⟩ => by
  refine lift_run R h fun v H0 ob env0 fp0 r0 R0 c0 ⟨eo, h⟩ => ?_
  subst eo
  cases r0 with
  | cls =>
    refine ⟨rfl, env0, fp0, _, R0, h, fun vs H1 ds env1 fp1 r1 R1 c1 ⟨hl, s⟩ => ⟨[.ref C], vs, rfl, rfl, by rw [r1.length]; exact sz_ok hl, fun p hp => ?_⟩⟩
    have x : Xt H1 (upd H1 p (.tup vs)) := Xt.new hp
    refine ⟨tb.tab (R1.ext x).2, ?_⟩
    exact spX_run (σ := σ) (ads := [.v (.cls C), .v (.tup ds)]) lk (R1.ext x) (.val (.cls C) (.val (.tup (.inl (.inl upd_same)) (r1.mono x.stp)) .nil)) rfl List.nodup_nil (fun i m => by cases m) (by simp only [pb2]; exact s) fun w H2 d env2 fp2 r2 R2 c2 q => k w H2 d env2 fp2 r2 R2 (((c0.trans c1).trans x.ch).trans c2) q
end
section
open PySem PySem.Spec PyProof.Rows L2
variable {P : Program} {w : World} {K : PySem.W.Frag} {mg : Str → Option Value} {base : Heap}
/-- def f(cls, *v) that may raise -/
theorem fun_okSX {x qual : Str} {st : Stmt} {f : Addr} {fd : FuncData} {N ps : List Str} {pv : Str} {k : Nat} {sp : Sp} (F : Fun K x qual st f fd) (S : FnScope N (ps ++ [pv]) (defScope st))
    (hb : ∀ (kV doc pm : Value) (an : Option Addr) (cdv ct : Value) (us rest : List Value), us.length = ps.length → bindArgs (PySem.W.fnOf x qual (defArgs st) (defBody st) (defScope st) .none kV doc pm an cdv ct) ⟨us ++ rest, []⟩ = (newTuple rest >>= fun t => pure (ps.zip us ++ [(pv, t)])))
    (hbody : ∀ (cdv : Value) (A : Around) (outer : List Env) (s : Shared) (H : Hp) (vs : List V) (Q : VK) (E : XK), Room k (A.deeper (envOfC qual (defScope st) s.heap.objs.size f cdv)) → sp vs H Q E →
      ∃ t, PSs (cxOf (L2.CX P w) P w K mg base N qual (defScope st) f cdv A outer s H E) (defBody st) t ∧ t { nx := fun _ H' => Q .non H', rt := Q } (start N vs) H) : FnR P w K mg base (L2.CX P w) (k + 1) f (starSp ps.length sp) := bxU (by simp (disch := with_unfolding_all
  obtain ⟨oc, od, kV, doc, pm, an, cdv, ct, osl, e, lk, hcd⟩ := F.ex
  rw [e] at lk
  exact StX.fn_star lk hcd S StX.cxUp (hb kV doc pm an cdv ct) fun A outer s H vs Q E hr hsp => hbody cdv A outer s H vs Q E hr hsp) only [bxI])
end
section
variable {nf : NFs} {env env' : EV nf} {da db : DT nf} {ra : DAs nf} {Q : D → EV nf → Prop} {d x y : D} {n i : Nat} {C : Addr} {S : SpX nf} {dds : List D} {rm : DM nf} {K : PySem.W.Frag} {xc : XcD nf} {rev : Bool} {P : D → D → Prop}
def OwnXK (xc : XcD nf) (rev : Bool) (P : D → D → Prop) (S : SpX nf) (Q : D → EV nf → Prop) (x : D) : D → EV nf → Prop := fun y env2 => P x y ∧ S (if rev then [.fz y, .fz x] else [.fz x, .fz y]) (fun d _ => Q d env2) fun C' fds _ => xc C' fds env2
theorem dOwnX_s (h : da env fun x env1 => db env1 (OwnXK xc rev P S Q x)) : dOwnX xc rev P S da db env Q := h
def MakeXK (K : PySem.W.Frag) (xc : XcD nf) (n : Nat) (C : Addr) (S : SpX nf) (dds : List D) (Q : D → EV nf → Prop) : List AD → EV nf → Prop := fun ads env1 => ads.length + dds.length + 1 = n ∧ 0 < nf C ∧ (slotsOf (ads ++ dds.map AD.v)).Nodup ∧ (∀ i ∈ slotsOf (ads ++ dds.map AD.v), i < env1.length) ∧
  ∀ y, S (.ow (.ref y) (insA K nf C []) :: (ads ++ dds.map AD.v).map (resolve env1)) (fun d as' => d = .non ∧ ∃ fds rest, as' = .fr (.ref y) (.obj C fds) :: rest ∧ Q (.obj C fds) (putBack env1 (ads ++ dds.map AD.v) rest)) fun C' fds' as' => ∃ s0 rest, as' = s0 :: rest ∧ xc C' fds' (putBack env1 (ads ++ dds.map AD.v) rest)
theorem dMakeX_s (h : rm env (MakeXK K xc n C S dds Q)) : dMakeX K xc n C S dds rm env Q := h
theorem dMakeLX_s (e : env[i]? = some (.fz (.cls C))) (h : dMakeX K xc n C S dds rm env Q) : dMakeLX K xc i n C S dds rm env Q := ⟨e, h⟩
def MkXK (env : EV nf) (ads : List AD) (xc : XcD nf) : Addr → List (Str × D) → List (SD nf) → Prop := fun C' fds' as' => ∃ s0 rest, as' = s0 :: rest ∧ xc C' fds' (putBack env ads rest)
theorem makeXK_s {ads ads' : List AD} {as : List (SD nf)} (h1 : ads.length + dds.length + 1 = n) (e1 : ads ++ dds.map AD.v = ads') (h0 : 0 < nf C) (h2 : ndB (slotsOf ads') = true) (h3 : (slotsOf ads').all (fun i => Nat.blt i env.length) = true)
    (e2 : ads'.map (resolve env) = as) (h : ∀ y, S (.ow (.ref y) (insA K nf C []) :: as) (MkK y C env ads' Q) (MkXK env ads' xc)) : MakeXK K xc n C S dds Q ads env := bxU (by simp (disch := with_unfolding_all (subst e1; subst e2; exact ⟨h1, h0, nd_of h2, ofAll h3, h⟩)) only [bxI])
theorem mkXK_s {ads : List AD} {s0 : SD nf} {rest : List (SD nf)} {C' : Addr} {fds' : List (Str × D)} (e : putBack env ads rest = env') (h : xc C' fds' env') : MkXK env ads xc C' fds' (s0 :: rest) := ⟨s0, rest, rfl, by rw [e]; exact h⟩
theorem ownXF_s (p : P x y) (h : S [.fz x, .fz y] (fun d _ => Q d env) fun C' fds _ => xc C' fds env) : OwnXK xc false P S Q x y env := ⟨p, h⟩
theorem ownXT_s (p : P x y) (h : S [.fz y, .fz x] (fun d _ => Q d env) fun C' fds _ => xc C' fds env) : OwnXK xc true P S Q x y env := ⟨p, h⟩
def CMethSXK2 (xc : XcD nf) (C : Addr) (S : SpX nf) (Q : D → EV nf → Prop) : List D → EV nf → Prop := fun ds env1 => ds.length ≤ 1000000 ∧ S [.fz (.cls C), .fz (.tup ds)] (fun d _ => Q d env1) fun C' fds _ => xc C' fds env1
def CMethSXK (xc : XcD nf) (C : Addr) (S : SpX nf) (ra : DAs nf) (Q : D → EV nf → Prop) : D → EV nf → Prop := fun ob env0 => ob = .cls C ∧ ra env0 (CMethSXK2 xc C S Q)
theorem dCMethSX_s (h : da env (CMethSXK xc C S ra Q)) : dCMethSX xc C S da ra env Q := h
theorem isiBl_s {c : Bool} {T : String} {b : Bool} (e : kitB "bool" T = some b) (h : Q (.bl b) env) : CbK (fIsi K) Q [.bl c, .ty T] env := ⟨_, ⟨_, _, _, _, b, rfl, (fun C fs z => by cases z), rfl, rfl, e, rfl⟩, h⟩
theorem isiNon_s {T : String} {b : Bool} (e : kitB "NoneType" T = some b) (h : Q (.bl b) env) : CbK (fIsi K) Q [.non, .ty T] env := ⟨_, ⟨_, _, _, _, b, rfl, (fun C fs z => by cases z), rfl, rfl, e, rfl⟩, h⟩
theorem kb8 : kitB "list" "tuple" = some false := by decide +kernel
theorem kb9 : kitB "list" "int" = some false := by decide +kernel
theorem kb10 : kitB "list" "bool" = some false := by decide +kernel
theorem kb11 : kitB "list" "str" = some false := by decide +kernel
theorem kb12 : kitB "list" "list" = some true := by decide +kernel
theorem kb13 : kitB "list" "dict" = some false := by decide +kernel
theorem kb14 : kitB "tuple" "int" = some false := by decide +kernel
theorem kb15 : kitB "tuple" "bool" = some false := by decide +kernel
theorem kb16 : kitB "tuple" "str" = some false := by decide +kernel
theorem kb17 : kitB "tuple" "list" = some false := by decide +kernel
theorem kb18 : kitB "tuple" "dict" = some false := by decide +kernel
theorem kb19 : kitB "str" "tuple" = some false := by decide +kernel
theorem kb20 : kitB "str" "list" = some false := by decide +kernel
theorem kb21 : kitB "str" "dict" = some false := by decide +kernel
theorem kb22 : kitB "int" "tuple" = some false := by decide +kernel
theorem kb23 : kitB "int" "str" = some false := by decide +kernel
theorem kb24 : kitB "int" "list" = some false := by decide +kernel
theorem kb25 : kitB "int" "dict" = some false := by decide +kernel
theorem kb26 : kitB "bool" "tuple" = some false := by decide +kernel
theorem kb27 : kitB "bool" "int" = some true := by decide +kernel
theorem kb28 : kitB "bool" "bool" = some true := by decide +kernel
theorem kb29 : kitB "bool" "str" = some false := by decide +kernel
theorem kb30 : kitB "bool" "list" = some false := by decide +kernel
theorem kb31 : kitB "bool" "dict" = some false := by decide +kernel
theorem kb32 : kitB "NoneType" "tuple" = some false := by decide +kernel
theorem kb33 : kitB "NoneType" "int" = some false := by decide +kernel
theorem kb34 : kitB "NoneType" "bool" = some false := by decide +kernel
theorem kb35 : kitB "NoneType" "str" = some false := by decide +kernel
theorem kb36 : kitB "NoneType" "list" = some false := by decide +kernel
theorem kb37 : kitB "NoneType" "dict" = some false := by decide +kernel
theorem cmethSXK_s (h : ra env (CMethSXK2 xc C S Q)) : CMethSXK xc C S ra Q (.cls C) env := ⟨rfl, h⟩
theorem cmethSXK2_s {ds : List D} (hl : ds.length ≤ 1000000) (h : S [.fz (.cls C), .fz (.tup ds)] (fun d _ => Q d env) fun C' fds _ => xc C' fds env) : CMethSXK2 xc C S Q ds env := ⟨hl, h⟩
end
end DL
namespace K05
open PySem L2 DL
local macro_rules | `(tactic| walk_at "~0") => `(tactic| ((with_reducible refine dEqG_s ?_; refine dOp_s ?_)))
local macro_rules | `(tactic| walk_at "~1") => `(tactic| ((with_reducible refine sSeq_s ?_; refine sIf_s ?_)))
local macro_rules | `(tactic| walk_at "~2") => `(tactic| ((with_reducible refine aCons_s ?_; refine dC_s ?_)))
local macro_rules | `(tactic| walk_at "~3") => `(tactic| ((with_reducible refine dBv_s ?_); walk_at "~0"))
local macro_rules | `(tactic| walk_at "~4") => `(tactic| ((with_reducible refine bvK_s ?_); walk_at "@89822"))
local macro_rules | `(tactic| walk_at "~5") => `(tactic| ((with_reducible refine dCB_s ?_; refine aCons_s ?_)))
local macro_rules | `(tactic| walk_at "~6") => `(tactic| (walk_at "@a3227"; (with_reducible refine dC_s ?_)))
local macro_rules | `(tactic| walk_at "~7") => `(tactic| ((with_reducible refine aNil_s ?_); walk_at "@6e437"))
local macro_rules | `(tactic| walk_at "~8") => `(tactic| (walk_at "~4"; (with_reducible refine sNext_s ?_)))
local macro_rules | `(tactic| walk_at "~9") => `(tactic| ((with_reducible refine mNil_s ?_); walk_at "@98747"))
local macro_rules | `(tactic| walk_at "~10") => `(tactic| ((with_reducible refine mVal_s ?_); walk_at "@a3227"))
local macro_rules | `(tactic| walk_at "~11") => `(tactic| (walk_at "~6"; walk_at "@79cef"))
local macro_rules | `(tactic| walk_at "~12") => `(tactic| (walk_at "~5"; walk_at "@a3227"))
local macro_rules | `(tactic| walk_at "~13") => `(tactic| (walk_at "~1"; walk_at "~3"))
local macro_rules | `(tactic| walk_at "~14") => `(tactic| ((with_reducible refine sSeq_s ?_; refine sSet_s ?_)))
local macro_rules | `(tactic| walk_at "~15") => `(tactic| (walk_at "~13"; walk_at "~11"))
local macro_rules | `(tactic| walk_at "~16") => `(tactic| ((with_reducible refine bvK_s ?_); walk_at "@0442c"))
local macro_rules | `(tactic| walk_at "~17") => `(tactic| ((with_reducible refine dNot_s ?_; refine dBv_s ?_)))
local macro_rules | `(tactic| walk_at "~18") => `(tactic| ((with_reducible refine dCall_s ?_); walk_at "@b9a69"))
local macro_rules | `(tactic| walk_at "~19") => `(tactic| (walk_at "~15"; walk_at "~8"))
local macro_rules | `(tactic| walk_at "~20") => `(tactic| (walk_at "~2"; (with_reducible refine aNil_s ?_)))
local macro_rules | `(tactic| walk_at "~21") => `(tactic| (walk_at "~12"; (with_reducible refine aNil_s ?_)))
local macro_rules | `(tactic| walk_at "~22") => `(tactic| ((with_reducible refine sRet_s ?_; refine dC_s ?_)))
local macro_rules | `(tactic| walk_at "~23") => `(tactic| (walk_at "~19"; walk_at "~19"))
local macro_rules | `(tactic| walk_at "~24") => `(tactic| ((with_reducible refine dTup_s ?_); walk_at "~2"))
local macro_rules | `(tactic| walk_at "~25") => `(tactic| (walk_at "~1"; (with_reducible refine dOr_s ?_)))
local macro_rules | `(tactic| walk_at "~26") => `(tactic| ((with_reducible refine mVal_s ?_; refine dC_s ?_)))
local macro_rules | `(tactic| walk_at "~27") => `(tactic| (walk_at "~12"; walk_at "~20"))
local macro_rules | `(tactic| walk_at "~28") => `(tactic| (walk_at "~22"; walk_at "@17e17"))
local macro_rules | `(tactic| walk_at "~29") => `(tactic| ((with_reducible refine dCall_s ?_); walk_at "~10"))
local macro_rules | `(tactic| walk_at "~30") => `(tactic| (walk_at "~25"; walk_at "~17"))
local macro_rules | `(tactic| walk_at "~31") => `(tactic| (walk_at "~30"; walk_at "~27"))
local macro_rules | `(tactic| walk_at "~32") => `(tactic| ((with_reducible refine aCons_s ?_; refine dF_s ?_)))
local macro_rules | `(tactic| walk_at "~33") => `(tactic| ((with_reducible refine dFld_s ?_); walk_at "@a3227"))
local macro_rules | `(tactic| walk_at "~34") => `(tactic| (walk_at "@f686d"; walk_at "@d4417"))
local macro_rules | `(tactic| walk_at "~35") => `(tactic| ((with_reducible refine gsCons_s ?_); walk_at "@b5b11"))
local macro_rules | `(tactic| walk_at "~36") => `(tactic| (walk_at "~10"; (with_reducible refine mNil_s ?_)))
local macro_rules | `(tactic| walk_at "~37") => `(tactic| (walk_at "@0442c"; walk_at "~28"))
local macro_rules | `(tactic| walk_at "~38") => `(tactic| ((with_reducible refine aCons_s ?_); walk_at "@a3227"))
local macro_rules | `(tactic| walk_at "~39") => `(tactic| ((with_reducible refine dLst_s ?_); walk_at "~7"))
local macro_rules | `(tactic| walk_at "~40") => `(tactic| ((with_reducible refine dMakeX_s ?_; refine mVal_s ?_)))
local macro_rules | `(tactic| walk_at "~41") => `(tactic| (walk_at "~18"; walk_at "~26"))
local macro_rules | `(tactic| walk_at "~42") => `(tactic| (walk_at "~41"; walk_at "~9"))
local macro_rules | `(tactic| walk_at "~43") => `(tactic| (walk_at "~33"; walk_at "@75a28"))
local macro_rules | `(tactic| walk_at "~44") => `(tactic| ((with_reducible refine dF_s ?_; refine dF_s ?_)))
local macro_rules | `(tactic| walk_at "~45") => `(tactic| (walk_at "@a3227"; walk_at "@a3227"))
local macro_rules | `(tactic| walk_at "~46") => `(tactic| ((with_reducible refine dC_s ?_); walk_at "@323ff"))
local macro_rules | `(tactic| walk_at "~47") => `(tactic| ((with_reducible refine aCons_s ?_); walk_at "~24"))
local macro_rules | `(tactic| walk_at "~48") => `(tactic| ((with_reducible refine dCallX_s ?_); walk_at "~36"))
local macro_rules | `(tactic| walk_at "~49") => `(tactic| (walk_at "~16"; walk_at "~37"))
local macro_rules | `(tactic| walk_at "~50") => `(tactic| (walk_at "@a3227"; (with_reducible refine dNegC_s ?_)))
local macro_rules | `(tactic| walk_at "~51") => `(tactic| ((with_reducible refine sRet_s ?_; refine dOwnX_s ?_)))
local macro_rules | `(tactic| walk_at "~52") => `(tactic| ((with_reducible refine mNil_s ?_); walk_at "@a93ce"))
local macro_rules | `(tactic| walk_at "~53") => `(tactic| (walk_at "@03faf"; walk_at "@04db9"))
local macro_rules | `(tactic| walk_at "~54") => `(tactic| (walk_at "@f1e75"; walk_at "@17e17"))
local macro_rules | `(tactic| walk_at "~55") => `(tactic| ((with_reducible refine dF_s ?_); walk_at "~6"))
local macro_rules | `(tactic| walk_at "~56") => `(tactic| (walk_at "~21"; (with_reducible refine cbLenT_s ?_)))
local macro_rules | `(tactic| walk_at "~57") => `(tactic| (walk_at "~3"; walk_at "@a3227"))
local macro_rules | `(tactic| walk_at "~58") => `(tactic| (walk_at "~31"; walk_at "@23602"))
local macro_rules | `(tactic| walk_at "~59") => `(tactic| (walk_at "@89822"; (with_reducible refine sNext_s ?_)))
local macro_rules | `(tactic| walk_at "~60") => `(tactic| (walk_at "~4"; walk_at "~3"))
local macro_rules | `(tactic| walk_at "~61") => `(tactic| ((with_reducible refine sRet_s ?_; refine dAndV_s ?_)))
local macro_rules | `(tactic| walk_at "~62") => `(tactic| (walk_at "~1"; (with_reducible refine dAnd_s ?_)))
local macro_rules | `(tactic| walk_at "~63") => `(tactic| (walk_at "@79cef"; (with_reducible refine bvK_s ?_)))
local macro_rules | `(tactic| walk_at "~64") => `(tactic| (walk_at "~2"; walk_at "~7"))
local macro_rules | `(tactic| walk_at "~65") => `(tactic| (walk_at "~23"; walk_at "~23"))
local macro_rules | `(tactic| walk_at "~66") => `(tactic| (walk_at "~48"; walk_at "@04557"))
local macro_rules | `(tactic| walk_at "~67") => `(tactic| (walk_at "~24"; (with_reducible refine aCons_s ?_)))
local macro_rules | `(tactic| walk_at "~68") => `(tactic| ((with_reducible refine sRet_s ?_); walk_at "~40"))
local macro_rules | `(tactic| walk_at "~69") => `(tactic| ((with_reducible refine mVal_s ?_); walk_at "~43"))
local macro_rules | `(tactic| walk_at "~70") => `(tactic| ((with_reducible refine sRet_s ?_); walk_at "@a3227"))
local macro_rules | `(tactic| walk_at "~71") => `(tactic| (walk_at "~7"; walk_at "@17e17"))
local macro_rules | `(tactic| walk_at "~72") => `(tactic| (walk_at "@d4417"; walk_at "~14"))
local macro_rules | `(tactic| walk_at "~73") => `(tactic| (walk_at "~21"; (with_reducible refine cbList_s ?_)))
local macro_rules | `(tactic| walk_at "~74") => `(tactic| ((with_reducible refine sSeq_s ?_; refine sAsg_s ?_)))
local macro_rules | `(tactic| walk_at "~75") => `(tactic| ((with_reducible refine dC_s ?_); walk_at "@65346"))
local macro_rules | `(tactic| walk_at "~76") => `(tactic| (walk_at "@65e50"; (with_reducible refine dC_s ?_)))
local macro_rules | `(tactic| walk_at "~77") => `(tactic| ((with_reducible refine dC_s ?_); walk_at "~63"))
local macro_rules | `(tactic| walk_at "~78") => `(tactic| (walk_at "~47"; walk_at "~64"))
local macro_rules | `(tactic| walk_at "~79") => `(tactic| ((with_reducible refine dF_s ?_; refine dCall_s ?_)))
local macro_rules | `(tactic| walk_at "~80") => `(tactic| (walk_at "@f686d"; (with_reducible refine andVK_s ?_)))
open DS (Pr ltM)
def nf (a : Ad) : NFs := ⟨nf0 a, fun _ _ => Str.empty, []⟩
def letters : Str := "abcdefghijklmnopqrstuvwxyz"
def digits : Str := "0123456789"
def isWordB (s : Str) : Bool := decide (1 ≤ s.length) && decide (s.length ≤ 12) && s.cps.toList.all fun c => decide (c ∈ letters.cps.toList) || decide (c ∈ digits.cps.toList)
def headB (s : Str) : Bool := match s.cps.toList with | c :: _ => decide (c ∈ letters.cps.toList) | [] => false
def isIdB (s : Str) : Bool := isWordB s && headB s && !inV (.str s) keptV
/-- a right pair -/
def goodP (p : Pr) : Prop := 0 ≤ p.1 ∧ p.1 < 10 ^ 60 ∧ isIdB p.2 = true
section
variable (K : PySem.W.Frag) (a : Ad)
abbrev capD (l : List Pr) : D := .obj a.C_Captures [("pairs", .tup (l.map pairD))]
def S_shared_pairs : SpD (nf a) := fun as Q => ∃ l m : List Pr, as = [.fz (.tup (l.map pairD)), .fz (.tup (m.map pairD))] ∧ (∀ p ∈ l, goodP p) ∧ (∀ p ∈ m, goodP p) ∧ l.length ≤ 1000 ∧ Q (.lst ((l.filter fun p => decide (p ∈ m)).map pairD)) as
def S_missing_pairs : SpD (nf a) := fun as Q => ∃ l m : List Pr, as = [.fz (.tup (l.map pairD)), .fz (.tup (m.map pairD))] ∧ (∀ p ∈ l, goodP p) ∧ (∀ p ∈ m, goodP p) ∧ l.length ≤ 1000 ∧ Q (.lst ((l.filter fun p => !decide (p ∈ m)).map pairD)) as
/-- the tape of the draws stands in v, at most b draws were made -/
def Tp (v : V) (b : Int) (s : SD (nf a)) : Prop := ∃ c n f k : Int, s = .ow v (lstA K (nf a) [.int c, .int n, .int f, .int k]) ∧ (f = 0 ∨ f = 1 ∧ 0 ≤ c ∧ c < 10 ^ 18) ∧ 0 ≤ n ∧ n ≤ b ∧ 0 ≤ k ∧ k ≤ 63
def S_law_tape : SpO (nf a) := fun as Q => ∃ (ns : List Int) (k : Int), as = [.fz (.scr ns), .fz (.int k)] ∧ 0 ≤ k ∧ k ≤ 63 ∧ ∀ v s, Tp K a v 0 s → Q s as
def S_law_draw : SpD (nf a) := fun as Q => ∃ v s b m, as = [s, .fz (.int m)] ∧ Tp K a v b s ∧ b ≤ 1000 ∧ 0 < m ∧ m ≤ 10 ^ 60 ∧ ∀ s' d, Tp K a v (b + 1) s' → 0 ≤ d → d < m → Q (.int d) [s', .fz (.int m)]
def keptWords : List Str := ["name", "flag", "slot", "func", "open", "own", "look", "bind", "call", "keep", "take", "shift", "run", "drop", "apart", "when", "held", "fail", "guard", "else", "after", "end", "with", "of", "on", "off"]
def signs : Str := "abcdefghijklmnopqrstuvwxyz0123456789"
def S_law_kept : SpD (nf a) := fun as Q => as = [] ∧ Q (.lst (keptWords.map .str)) as
def S_law_signs : SpD (nf a) := fun as Q => as = [] ∧ Q (.str signs) as
def S_law_spelled : SpD (nf a) := fun as Q => ∃ v s b, as = [s, .fz (.lst [])] ∧ Tp K a v b s ∧ b ≤ 900 ∧ ∀ s' z, Tp K a v (b + 20) s' → isWordB z = true → headB z = true → Q (.str z) [s', .fz (.lst [])]
def S_law_ident : SpD (nf a) := fun as Q => ∃ v s b, as = [s, .fz (.lst [])] ∧ Tp K a v b s ∧ b ≤ 900 ∧ ∀ s' z, Tp K a v (b + 20) s' → isIdB z = true → Q (.str z) [s', .fz (.lst [])]
def S_law_number : SpD (nf a) := fun as Q => ∃ v s b, as = [s] ∧ Tp K a v b s ∧ b ≤ 900 ∧ ∀ s' i, Tp K a v (b + 2) s' → 0 ≤ i → i < 10 ^ 60 → Q (.int i) [s']
def S_law_ascending : SpD (nf a) := fun as Q => ∃ ps : List Pr, as = [.fz (.lst (ps.map pairD))] ∧ (∀ p ∈ ps, goodP p) ∧ ps.length ≤ 1000 ∧ Q (.lst ((ascP ps).map pairD)) as
end
structure EF (K : PySem.W.Frag) (a : Ad) : Prop where
  e_BadPair : ErrC K a.C_BadPair ["pair"]
  x_BadPair_BadPair : PySem.W.exmOne K (.ref a.C_BadPair) (.ref a.C_BadPair) = some true
  k_BadPair_BadCaptures : PySem.W.kitOne K (.ref a.C_BadPair) (.ref a.C_BadCaptures) = some true
  k_BadPair_BindspanError : PySem.W.kitOne K (.ref a.C_BadPair) (.ref a.C_BindspanError) = some true
  k_BadPair_ValueError : PySem.W.kitOne K (.ref a.C_BadPair) (.type "ValueError") = some true
  k_BadPair_NoKeeping : PySem.W.kitOne K (.ref a.C_BadPair) (.ref a.C_NoKeeping) = some false
  k_BadPair_TooMany : PySem.W.kitOne K (.ref a.C_BadPair) (.ref a.C_TooMany) = some false
def isWordD : D → Bool
  | .str s => isWordB s
  | _ => false
def isIdD : D → Bool
  | .str s => isIdB s
  | _ => false
def isNumD : D → Bool
  | .int i => decide (0 ≤ i) && decide (i < 10 ^ 60)
  | _ => false
def isPairD : D → Bool
  | .tup [n, i] => isNumD n && isIdD i
  | _ => false
/-- a plain value, not too long -/
def Smp : D → Prop
  | .non => True
  | .bl _ => True
  | .int _ => True
  | .str s => s.length ≤ 1000000
  | .tup xs => xs.length ≤ 1000000
  | .lst xs => xs.length ≤ 1000000
  | _ => False
def Itm (d : D) : Prop := Smp d ∧ ∀ n i, d = .tup [n, i] → Smp n ∧ Smp i
def badL (ds : List D) : Option D := ds.find? fun d => !isPairD d
def SeqD (d : D) (ds : List D) : Prop := (d = .lst ds ∨ d = .tup ds) ∧ (∀ x ∈ ds, Itm x) ∧ ds.length ≤ 500
def two : List Pr := [(0, "x"), (1, "y")]
abbrev errD (x : D) : D := .tup [.str "error", .bl true, x]
abbrev foundD (u : List Pr) : D := .tup [.str "pairs", .tup (u.map pairD)]
def kindS (b : Bool) : Str := if b then "good" else "bad"
section
variable (K : PySem.W.Frag) (a : Ad)
def S_is_wordA : SpD (nf a) := fun as Q => ∃ d, as = [.fz d] ∧ Smp d ∧ Q (.bl (isWordD d)) as
def S_is_identifierA : SpD (nf a) := fun as Q => ∃ d, as = [.fz d] ∧ Smp d ∧ Q (.bl (isIdD d)) as
def S_is_pairA : SpD (nf a) := fun as Q => ∃ d, as = [.fz d] ∧ Itm d ∧ Q (.bl (isPairD d)) as
def S_in_orderX : SpX (nf a) := fun as Q E => ∃ d ds, as = [.fz d] ∧ SeqD d ds ∧ (∀ x, badL ds = some x → E a.C_BadPair [("pair", x)] as) ∧ (badL ds = none → ∀ ps, ds = ps.map pairD → (∀ p ∈ ps, goodP p) → Q (.tup ((ascP ps).map pairD)) as)
def S_Captures_initX : SpX (nf a) := fun as Q E => ∃ v d ds, as = [.ow v (insA K (nf a) a.C_Captures []), .fz d] ∧ SeqD d ds ∧ (∀ x, badL ds = some x → E a.C_BadPair [("pair", x)] as) ∧ (badL ds = none → ∀ ps, ds = ps.map pairD → (∀ p ∈ ps, goodP p) → Q .non [.fr v (capD a (ascP ps)), .fz d])
def S_Captures_ofX : SpX (nf a) := fun as Q E => ∃ ds, as = [.fz (.cls a.C_Captures), .fz (.tup ds)] ∧ SeqD (.tup ds) ds ∧ (∀ x, badL ds = some x → E a.C_BadPair [("pair", x)] as) ∧ (badL ds = none → ∀ ps, ds = ps.map pairD → (∀ p ∈ ps, goodP p) → Q (capD a (ascP ps)) as)
/-- an operator with a list or a tuple -/
def opX : SpX (nf a) := fun as Q E => ∃ l d ds, as = [.fz (capD a l), .fz d] ∧ (∀ p ∈ l, goodP p) ∧ l.length ≤ 100 ∧ SeqD d ds ∧ ds.length ≤ 100 ∧ (∀ x, badL ds = some x → E a.C_BadPair [("pair", x)] as) ∧ (badL ds = none → ∀ u, (∀ p ∈ u, goodP p) → Q (capD a u) as)
def S_law_bad_number : SpD (nf a) := fun as Q => ∃ v s b, as = [s] ∧ Tp K a v b s ∧ b ≤ 900 ∧ ∀ s' d, Tp K a v (b + 3) s' → Smp d → plD 3 d → isNumD d = false → Q d [s']
def S_law_bad_ident : SpD (nf a) := fun as Q => ∃ v s b, as = [s] ∧ Tp K a v b s ∧ b ≤ 900 ∧ ∀ s' d, Tp K a v (b + 30) s' → Smp d → plD 3 d → isIdD d = false → Q d [s']
def S_law_item : SpD (nf a) := fun as Q => ∃ v s b, as = [s] ∧ Tp K a v b s ∧ b ≤ 800 ∧ ∀ s' d, Tp K a v (b + 60) s' → Itm d → plD 5 d → Q (.tup [.str (kindS (isPairD d)), d]) [s']
def S_law_family : Addr → Addr → Addr → SpD (nf a) := fun xa xC xd as Q => ∃ fds, as = [.ow (.ref xa) (excA K (nf a) xd fds)] ∧ xC = a.C_BadPair ∧ Q (.bl true) as
def S_law_joined : SpX (nf a) := fun as Q E => ∃ (w : Int) (d : D) (ds : List D), as = [.fz (capD a two), .fz (.int w), .fz d] ∧ 0 ≤ w ∧ w ≤ 9 ∧ SeqD d ds ∧ ds.length ≤ 100 ∧ ds ≠ [] ∧
  (w ≠ 8 → (∀ x, badL ds = some x → E a.C_BadPair [("pair", x)] as) ∧ (badL ds = none → ∀ u, (∀ p ∈ u, goodP p) → (w = 9 → ∀ ps, ds = ps.map pairD → (∀ p ∈ ps, goodP p) → u = ascP ps) → Q (capD a u) as)) ∧
  (w = 8 → ∀ x, ds.getLast? = some x → (isPairD x = false → E a.C_BadPair [("pair", x)] as) ∧ (∀ p, x = pairD p → goodP p → Q (capD a [p]) as))
def S_law_result : SpD (nf a) := fun as Q => ∃ (w : Int) (d : D) (ds : List D), as = [.fz (capD a two), .fz (.int w), .fz d] ∧ 0 ≤ w ∧ w ≤ 9 ∧ SeqD d ds ∧ ds.length ≤ 100 ∧ ds ≠ [] ∧
  (w ≠ 8 → (∀ x, badL ds = some x → Q (errD x) as) ∧ (badL ds = none → ∀ u, (∀ p ∈ u, goodP p) → (w = 9 → ∀ ps, ds = ps.map pairD → (∀ p ∈ ps, goodP p) → u = ascP ps) → Q (foundD u) as)) ∧
  (w = 8 → ∀ x, ds.getLast? = some x → (isPairD x = false → Q (errD x) as) ∧ (∀ p, x = pairD p → goodP p → Q (foundD [p]) as))
def S_law : SpD (nf a) := fun as Q => ∃ ns, as = [.fz (.scr ns)] ∧ ns.length ≤ 63 ∧ Q (.bl true) as
end
open PySem L2 DL
def kept : D := .tup [.str "name", .str "flag", .str "slot", .str "func", .str "open", .str "own", .str "look", .str "bind", .str "call", .str "keep", .str "take", .str "shift", .str "run", .str "drop", .str "apart", .str "when", .str "held", .str "fail", .str "guard", .str "else", .str "after", .str "end", .str "with", .str "of", .str "on", .str "off"]
def td_is_word (K : PySem.W.Frag) (a : Ad) : DTS (nf a) :=
    (sSeq (sIf (dOr (dNot (dBv (dCB (fIsi K) (aCons (dVar 0) (aCons (dC (.ty "str")) aNil))))) (dNot (dBv (dChain cLe cLe (dC (.int 1)) (dCB fLenG (aCons (dVar 0) aNil)) (dC (.int 12)))))) (sRet (dC (.bl false))) sNext)
    (sRet (dCB fAll (aCons (dLc (iS (dVar 0)) (gN 1) dYes (dOrV (dF (inF false) (dVar 1) (dC (.str "abcdefghijklmnopqrstuvwxyz"))) (dF (inF false) (dVar 1) (dC (.str "0123456789")))) [1]) aNil))))
def td_is_identifier (K : PySem.W.Frag) (a : Ad) : DTS (nf a) :=
    (sRet (dAndV (dCall 1 (S_is_wordA a) [] (mVal (dVar 0) mNil)) (dAndV (dF (inF false) (dF ixD (dVar 0) (dC (.int 0))) (dC (.str "abcdefghijklmnopqrstuvwxyz"))) (dF ninF (dVar 0) (dC kept)))))
def td_is_pair (K : PySem.W.Frag) (a : Ad) : DTS (nf a) :=
    (sSeq (sIf (dOr (dNot (dBv (dCB (fIsi K) (aCons (dVar 0) (aCons (dC (.ty "tuple")) aNil))))) (dBv (dEqG true (dCB fLenG (aCons (dVar 0) aNil)) (dC (.int 2))))) (sRet (dC (.bl false))) sNext)
    (sSeq (sAsg (dVar 0) (gT 2 (gsCons (gN 1) (gsCons (gN 2) gsNil))))
    (sSeq (sIf (dOr (dNot (dBv (dCB (fIsi K) (aCons (dVar 1) (aCons (dC (.ty "int")) aNil))))) (dOr (dBv (dCB (fIsi K) (aCons (dVar 1) (aCons (dC (.ty "bool")) aNil)))) (dNot (dBv (dChain cLe cLt (dC (.int 0)) (dVar 1) (dC (.int (10 ^ 60)))))))) (sRet (dC (.bl false))) sNext)
    (sRet (dCall 1 (S_is_identifierA a) [] (mVal (dVar 2) mNil))))))
def td_in_order (K : PySem.W.Frag) (a : Ad) (xc : XcD (nf a)) : DTS (nf a) :=
    (sSeq (sFor (iQ (dVar 0)) (gN 1) (sIf (dNot (dBv (dCall 1 (S_is_pairA a) [] (mVal (dVar 1) mNil)))) (sRaise xc a.C_BadPair ["pair"] (aCons (dVar 1) aNil)) sNext))
    (sRet (dCB fTuple (aCons (dSortSet (aCons (dVar 0) aNil)) aNil))))
def td_Captures_init (K : PySem.W.Frag) (a : Ad) (xc : XcD (nf a)) : DTS (nf a) :=
    (sFldS K a.C_Captures 0 "pairs" (dCallX xc 1 (S_in_orderX a) [] (mVal (dVar 1) mNil)))
def td_Captures_of (K : PySem.W.Frag) (a : Ad) (xc : XcD (nf a)) : DTS (nf a) :=
    (sRet (dMakeLX K xc 0 2 a.C_Captures (S_Captures_initX K a) [] (mVal (dVar 1) mNil)))
def td_pairs_of (K : PySem.W.Frag) (a : Ad) (xc : XcD (nf a)) : DTS (nf a) :=
    (sSeq (sIf (dBv (dCB (fIsi K) (aCons (dVar 0) (aCons (dC (.cls a.C_Captures)) aNil)))) (sRet (dFld a.C_Captures "pairs" (dVar 0))) sNext)
    (sRet (dCallX xc 1 (S_in_orderX a) [] (mVal (dVar 0) mNil))))
def td_shared_pairs (K : PySem.W.Frag) (a : Ad) : DTS (nf a) :=
    (sRet (dLc (iT (dVar 0)) (gN 2) (dBv (dInX false (dVar 2) (dVar 1))) (dVar 2) [2]))
def td_missing_pairs (K : PySem.W.Frag) (a : Ad) : DTS (nf a) :=
    (sRet (dLc (iT (dVar 0)) (gN 2) (dBv (dInX true (dVar 2) (dVar 1))) (dVar 2) [2]))
def td_Captures_or (K : PySem.W.Frag) (a : Ad) (xc : XcD (nf a)) : DTS (nf a) :=
    (sRet (dMakeX K xc 2 a.C_Captures (S_Captures_initX K a) [] (mVal (dCatT (dFld a.C_Captures "pairs" (dVar 0)) (dCallX xc 1 (S_in_orderX a) [] (mVal (dVar 1) mNil))) mNil)))
def td_Captures_ror (K : PySem.W.Frag) (a : Ad) (xc : XcD (nf a)) : DTS (nf a) :=
    (sRet (dMakeX K xc 2 a.C_Captures (S_Captures_initX K a) [] (mVal (dCatT (dCallX xc 1 (S_in_orderX a) [] (mVal (dVar 1) mNil)) (dFld a.C_Captures "pairs" (dVar 0))) mNil)))
def td_Captures_and (K : PySem.W.Frag) (a : Ad) (xc : XcD (nf a)) : DTS (nf a) :=
    (sRet (dMakeX K xc 2 a.C_Captures (S_Captures_initX K a) [] (mVal (dCall 2 (S_shared_pairs a) [] (mVal (dFld a.C_Captures "pairs" (dVar 0)) (mVal (dCallX xc 1 (S_in_orderX a) [] (mVal (dVar 1) mNil)) mNil))) mNil)))
def td_Captures_rand (K : PySem.W.Frag) (a : Ad) (xc : XcD (nf a)) : DTS (nf a) :=
    (sRet (dMakeX K xc 2 a.C_Captures (S_Captures_initX K a) [] (mVal (dCall 2 (S_shared_pairs a) [] (mVal (dFld a.C_Captures "pairs" (dVar 0)) (mVal (dCallX xc 1 (S_in_orderX a) [] (mVal (dVar 1) mNil)) mNil))) mNil)))
def td_Captures_sub (K : PySem.W.Frag) (a : Ad) (xc : XcD (nf a)) : DTS (nf a) :=
    (sRet (dMakeX K xc 2 a.C_Captures (S_Captures_initX K a) [] (mVal (dCall 2 (S_missing_pairs a) [] (mVal (dFld a.C_Captures "pairs" (dVar 0)) (mVal (dCallX xc 1 (S_in_orderX a) [] (mVal (dVar 1) mNil)) mNil))) mNil)))
def td_Captures_rsub (K : PySem.W.Frag) (a : Ad) (xc : XcD (nf a)) : DTS (nf a) :=
    (sRet (dMakeX K xc 2 a.C_Captures (S_Captures_initX K a) [] (mVal (dCall 2 (S_missing_pairs a) [] (mVal (dCallX xc 1 (S_in_orderX a) [] (mVal (dVar 1) mNil)) (mVal (dFld a.C_Captures "pairs" (dVar 0)) mNil))) mNil)))
def td_Captures_xor (K : PySem.W.Frag) (a : Ad) (xc : XcD (nf a)) : DTS (nf a) :=
    (sSeq (sSet 2 (dCallX xc 1 (S_in_orderX a) [] (mVal (dVar 1) mNil)))
    (sRet (dMakeX K xc 2 a.C_Captures (S_Captures_initX K a) [] (mVal (dF addD (dCall 2 (S_missing_pairs a) [] (mVal (dFld a.C_Captures "pairs" (dVar 0)) (mVal (dVar 2) mNil))) (dCall 2 (S_missing_pairs a) [] (mVal (dVar 2) (mVal (dFld a.C_Captures "pairs" (dVar 0)) mNil)))) mNil))))
def td_Captures_rxor (K : PySem.W.Frag) (a : Ad) (xc : XcD (nf a)) : DTS (nf a) :=
    (sSeq (sSet 2 (dCallX xc 1 (S_in_orderX a) [] (mVal (dVar 1) mNil)))
    (sRet (dMakeX K xc 2 a.C_Captures (S_Captures_initX K a) [] (mVal (dF addD (dCall 2 (S_missing_pairs a) [] (mVal (dFld a.C_Captures "pairs" (dVar 0)) (mVal (dVar 2) mNil))) (dCall 2 (S_missing_pairs a) [] (mVal (dVar 2) (mVal (dFld a.C_Captures "pairs" (dVar 0)) mNil)))) mNil))))
def td_law_tape (K : PySem.W.Frag) (a : Ad) : DTS (nf a) :=
    (sSeq (sSet 2 (dC (.int 0)))
    (sSeq (sIf (dBv (dCmp cLt (dVar 1) (dCB fLenR (aCons (dVar 0) aNil)))) (sSet 2 (dCB fInt (aCons (dIxR (dVar 0) (dVar 1)) aNil))) sNext)
    (sRetL K (aCons (dVar 2) (aCons (dC (.int 0)) (aCons (dCB fInt (aCons (dChain cLe cLt (dC (.int 0)) (dVar 2) (dPow (dC (.int 10)) (dC (.int 18)))) aNil)) (aCons (dVar 1) aNil)))))))
def td_law_draw (K : PySem.W.Frag) (a : Ad) : DTS (nf a) :=
    (sSeq (sLAug K 0 1 (dC (.int 1)))
    (sSeq (sIf (dBv (dEqG false (dIxV K 0 (dC (.int 2))) (dC (.int 0)))) (sSeq (sSet 2 (dMod (dCB fInt (aCons (dIxV K 0 (dC (.int 0))) aNil)) (dVar 1)))
    (sSeq (sLPut K 0 (dC (.int 0)) (dDiv (dCB fInt (aCons (dIxV K 0 (dC (.int 0))) aNil)) (dVar 1)))
    (sRet (dVar 2)))) sNext)
    (sSeq (sSet 3 (dF ixD (dLst (aCons (dC (.int 2147483647)) (aCons (dC (.int 2147483629)) (aCons (dC (.int 2147483587)) (aCons (dC (.int 2147483579)) (aCons (dC (.int 2147483563)) aNil)))))) (dMod (dCB fInt (aCons (dIxV K 0 (dC (.int 1))) aNil)) (dC (.int 5)))))
    (sSeq (sSet 4 (dF addD (dIxV K 0 (dC (.int 0))) (dMul (dIxV K 0 (dC (.int 1))) (dC (.int 48271)))))
    (sSeq (sSet 5 (dMod (dCB fInt (aCons (dPow (dF addD (dF addD (dVar 4) (dMul (dIxV K 0 (dC (.int 3))) (dC (.int 104729)))) (dC (.int 40692))) (dC (.int 5))) aNil)) (dVar 3)))
    (sRet (dMod (dCB fInt (aCons (dDiv (dVar 5) (dC (.int 64))) aNil)) (dVar 1))))))))
def td_law_kept (K : PySem.W.Frag) (a : Ad) : DTS (nf a) :=
    (sSeq (sSet 0 (dC (.str "name flag slot func open own look bind call keep take shift run drop ")))
    (sRet (dSplit (dF addD (dVar 0) (dC (.str "apart when held fail guard else after end with of on off"))) (dC (.str " ")))))
def td_law_signs (K : PySem.W.Frag) (a : Ad) : DTS (nf a) :=
    (sRet (dC (.str "abcdefghijklmnopqrstuvwxyz0123456789")))
def td_law_spelled (K : PySem.W.Frag) (a : Ad) : DTS (nf a) :=
    (sSeq (sSet 2 (dCall 2 (S_law_draw K a) [] (mSlot 0 (mVal (dC (.int 5)) mNil))))
    (sSeq (sSet 3 (dF addD (dC (.int 1)) (dCall 2 (S_law_draw K a) [] (mSlot 0 (mVal (dC (.int 12)) mNil)))))
    (sSeqC (sIf (dBv (dEqG false (dVar 2) (dC (.int 0)))) (sSet 3 (dC (.int 1))) sNext)
    (sSeq (sIf (dBv (dEqG false (dVar 2) (dC (.int 1)))) (sRet (dF addD (dF ixD (dCall 0 (S_law_kept a) [] mNil) (dCall 2 (S_law_draw K a) [] (mSlot 0 (mVal (dC (.int 26)) mNil)))) (dF ixD (dCall 0 (S_law_signs a) [] mNil) (dCall 2 (S_law_draw K a) [] (mSlot 0 (mVal (dC (.int 36)) mNil)))))) sNext)
    (sSeqC (sIf (dAnd (dBv (dEqG false (dVar 2) (dC (.int 2)))) (dBv (dEqG true (dVar 1) (dLst aNil)))) (sSeq (sSet 4 (dF ixD (dVar 1) (dCall 2 (S_law_draw K a) [] (mSlot 0 (mVal (dCB fLenG (aCons (dVar 1) aNil)) mNil)))))
    (sSeq (sSet 5 (dCall 2 (S_law_draw K a) [] (mSlot 0 (mVal (dCB fLenG (aCons (dVar 4) aNil)) mNil))))
    (sRet (dF addD (dF addD (dSlS (dVar 4) oNone (oSome (dVar 5))) (dF ixD (dCall 0 (S_law_signs a) [] mNil) (dCall 2 (S_law_draw K a) [] (mSlot 0 (mVal (dC (.int 26)) mNil))))) (dSlS (dVar 4) (oSome (dF addD (dVar 5) (dC (.int 1)))) oNone))))) sNext)
    (sSeq (sSet 4 (dF ixD (dCall 0 (S_law_signs a) [] mNil) (dCall 2 (S_law_draw K a) [] (mSlot 0 (mVal (dC (.int 26)) mNil)))))
    (sSeq (sFor (iR1 (aCons (dSub (dVar 3) (dC (.int 1))) aNil)) (gN 5) (sSet 4 (dF addD (dVar 4) (dF ixD (dCall 0 (S_law_signs a) [] mNil) (dCall 2 (S_law_draw K a) [] (mSlot 0 (mVal (dC (.int 36)) mNil)))))))
    (sRet (dVar 4)))))))))
def td_law_ident (K : PySem.W.Frag) (a : Ad) : DTS (nf a) :=
    (sSeq (sSet 2 (dCall 2 (S_law_spelled K a) [] (mSlot 0 (mVal (dVar 1) mNil))))
    (sSeq (sIf (dAnd (dBv (dF ninF (dVar 2) (dVar 1))) (dBv (dF ninF (dVar 2) (dCall 0 (S_law_kept a) [] mNil)))) (sRet (dVar 2)) sNext)
    (sSeq (sFor (iR1 (aCons (dF addD (dCB fLenG (aCons (dVar 1) aNil)) (dC (.int 1))) aNil)) (gN 3) (sIf (dBv (dF ninF (dF addD (dSlS (dVar 2) oNone (oSome (dC (.int 9)))) (dCB fStrI (aCons (dVar 3) aNil))) (dVar 1))) (sRet (dF addD (dSlS (dVar 2) oNone (oSome (dC (.int 9)))) (dCB fStrI (aCons (dVar 3) aNil)))) sNext))
    (sRet (dVar 2)))))
def td_law_number (K : PySem.W.Frag) (a : Ad) : DTS (nf a) :=
    (sSeq (sIf (dBv (dEqG false (dCall 2 (S_law_draw K a) [] (mSlot 0 (mVal (dC (.int 3)) mNil))) (dC (.int 1)))) (sRet (dCall 2 (S_law_draw K a) [] (mSlot 0 (mVal (dPow (dC (.int 10)) (dC (.int 60))) mNil)))) sNext)
    (sRet (dCall 2 (S_law_draw K a) [] (mSlot 0 (mVal (dC (.int 13)) mNil)))))
def td_law_ascending (K : PySem.W.Frag) (a : Ad) : DTS (nf a) :=
    (sSeq (sSetL K 1 aNil)
    (sSeq (sFor (iL (dVar 0)) (gN 2) (sIf (dBv (dInXV K true (dVar 2) 1)) (fun De env => (∃ v xs, env[1]? = some (SD.ow v (lstA K (nf a) xs))) ∧ sApp K 1 (dVar 2) De env) sNext))
    (sRet (dSortM (aCons (dVarF K 1) aNil)))))
def td_law_bad_number (K : PySem.W.Frag) (a : Ad) : DTS (nf a) :=
    (sSeq (sSet 1 (dF addD (dPow (dC (.int 10)) (dC (.int 60))) (dCall 2 (S_law_draw K a) [] (mSlot 0 (mVal (dC (.int 9)) mNil)))))
    (sRet (dF ixD (dLst (aCons (dSub (dNeg (dC (.int 1))) (dCall 2 (S_law_draw K a) [] (mSlot 0 (mVal (dC (.int 9)) mNil)))) (aCons (dC (.bl true)) (aCons (dC (.bl false)) (aCons (dC (.str "0")) (aCons (dC .non) (aCons (dTup (aCons (dC (.int 1)) aNil)) (aCons (dVar 1) aNil)))))))) (dCall 2 (S_law_draw K a) [] (mSlot 0 (mVal (dC (.int 7)) mNil))))))
def td_law_bad_ident (K : PySem.W.Frag) (a : Ad) : DTS (nf a) :=
    (sSeq (sSet 1 (dCall 2 (S_law_ident K a) [] (mSlot 0 (mVal (dLst aNil) mNil))))
    (sSeq (sSet 2 (dCall 2 (S_law_draw K a) [] (mSlot 0 (mVal (dCB fLenG (aCons (dVar 1) aNil)) mNil))))
    (sSeq (sSet 3 (dF ixD (dC (.str "ABCDEFGHIJKLMNOPQRSTUVWXYZ _-.:")) (dCall 2 (S_law_draw K a) [] (mSlot 0 (mVal (dC (.int 31)) mNil)))))
    (sSeq (sSet 4 (dF addD (dF addD (dSlS (dVar 1) oNone (oSome (dVar 2))) (dVar 3)) (dSlS (dVar 1) (oSome (dF addD (dVar 2) (dC (.int 1)))) oNone)))
    (sSeq (sSet 5 (dF addD (dF ixD (dC (.str "0123456789")) (dCall 2 (S_law_draw K a) [] (mSlot 0 (mVal (dC (.int 10)) mNil)))) (dSlS (dVar 1) oNone (oSome (dC (.int 11))))))
    (sSeq (sSet 6 (dF addD (dF addD (dVar 1) (dSlS (dC (.str "abcdefghijklm")) (oSome (dCB fLenG (aCons (dVar 1) aNil))) oNone)) (dVar 1)))
    (sSeq (sSet 7 (dF ixD (dCall 0 (S_law_kept a) [] mNil) (dCall 2 (S_law_draw K a) [] (mSlot 0 (mVal (dC (.int 26)) mNil)))))
    (sRet (dF ixD (dLst (aCons (dVar 7) (aCons (dC (.str "")) (aCons (dVar 4) (aCons (dVar 5) (aCons (dVar 6) (aCons (dC (.int 7)) (aCons (dC .non) aNil)))))))) (dCall 2 (S_law_draw K a) [] (mSlot 0 (mVal (dC (.int 7)) mNil))))))))))))
def td_law_item (K : PySem.W.Frag) (a : Ad) : DTS (nf a) :=
    (sSeq (sSet 1 (dCall 2 (S_law_draw K a) [] (mSlot 0 (mVal (dC (.int 9)) mNil))))
    (sSeq (sSet 2 (dTup (aCons (dCall 1 (S_law_number K a) [] (mSlot 0 mNil)) (aCons (dCall 2 (S_law_ident K a) [] (mSlot 0 (mVal (dLst aNil) mNil))) aNil))))
    (sSeq (sIf (dBv (dEqG false (dVar 1) (dC (.int 0)))) (sRet (dTup (aCons (dC (.str "bad")) (aCons (dTup (aCons (dCall 1 (S_law_bad_number K a) [] (mSlot 0 mNil)) (aCons (dF ixD (dVar 2) (dC (.int 1))) aNil))) aNil)))) sNext)
    (sSeq (sIf (dBv (dEqG false (dVar 1) (dC (.int 1)))) (sRet (dTup (aCons (dC (.str "bad")) (aCons (dTup (aCons (dF ixD (dVar 2) (dC (.int 0))) (aCons (dCall 1 (S_law_bad_ident K a) [] (mSlot 0 mNil)) aNil))) aNil)))) sNext)
    (sSeq (sIf (dBv (dEqG false (dVar 1) (dC (.int 2)))) (sRet (dTup (aCons (dC (.str "bad")) (aCons (dF ixD (dLst (aCons (dCatT (dVar 2) (dTup (aCons (dF ixD (dVar 2) (dC (.int 1))) aNil))) (aCons (dTup (aCons (dF ixD (dVar 2) (dC (.int 0))) aNil)) (aCons (dCB fList (aCons (dVar 2) aNil)) (aCons (dF ixD (dVar 2) (dC (.int 1))) (aCons (dC .non) (aCons (dTup aNil) aNil))))))) (dCall 2 (S_law_draw K a) [] (mSlot 0 (mVal (dC (.int 6)) mNil)))) aNil)))) sNext)
    (sRet (dTup (aCons (dC (.str "good")) (aCons (dVar 2) aNil)))))))))
def td_law_family (K : PySem.W.Frag) (a : Ad) (xa xC xd : Addr) : DTS (nf a) :=
    (sSeq (sSet 1 (dAndV (dExIs K xa xC xd 0 a.C_BadCaptures) (dAndV (dExIs K xa xC xd 0 a.C_BindspanError) (dExIsT K xa xC xd 0 "ValueError"))))
    (sRet (dAndV (dVar 1) (dAndV (dNotV (dExIs K xa xC xd 0 a.C_NoKeeping)) (dNotV (dExIs K xa xC xd 0 a.C_TooMany))))))
def td_law_joined (K : PySem.W.Frag) (a : Ad) (xc : XcD (nf a)) : DTS (nf a) :=
    (sSeq (sIf (dBv (dEqG false (dVar 1) (dC (.int 0)))) (sRet (dOwnX xc false (fun x y => isO a.C_Captures x ∧ isSq y) (opX a) (dVar 0) (dVar 2))) sNext)
    (sSeq (sIf (dBv (dEqG false (dVar 1) (dC (.int 1)))) (sRet (dOwnX xc false (fun x y => isO a.C_Captures x ∧ isSq y) (opX a) (dVar 0) (dVar 2))) sNext)
    (sSeq (sIf (dBv (dEqG false (dVar 1) (dC (.int 2)))) (sRet (dOwnX xc false (fun x y => isO a.C_Captures x ∧ isSq y) (opX a) (dVar 0) (dVar 2))) sNext)
    (sSeq (sIf (dBv (dEqG false (dVar 1) (dC (.int 3)))) (sRet (dOwnX xc false (fun x y => isO a.C_Captures x ∧ isSq y) (opX a) (dVar 0) (dVar 2))) sNext)
    (sSeq (sIf (dBv (dEqG false (dVar 1) (dC (.int 4)))) (sRet (dOwnX xc true (fun x y => isSq x ∧ isO a.C_Captures y) (opX a) (dVar 2) (dVar 0))) sNext)
    (sSeq (sIf (dBv (dEqG false (dVar 1) (dC (.int 5)))) (sRet (dOwnX xc true (fun x y => isSq x ∧ isO a.C_Captures y) (opX a) (dVar 2) (dVar 0))) sNext)
    (sSeq (sIf (dBv (dEqG false (dVar 1) (dC (.int 6)))) (sRet (dOwnX xc true (fun x y => isSq x ∧ isO a.C_Captures y) (opX a) (dVar 2) (dVar 0))) sNext)
    (sSeq (sIf (dBv (dEqG false (dVar 1) (dC (.int 7)))) (sRet (dOwnX xc true (fun x y => isSq x ∧ isO a.C_Captures y) (opX a) (dVar 2) (dVar 0))) sNext)
    (sSeq (sIf (dBv (dEqG false (dVar 1) (dC (.int 8)))) (sRet (dCMethSX xc a.C_Captures (S_Captures_ofX a) (dC (.cls a.C_Captures)) (aCons (dF ixD (dVar 2) (dNeg (dC (.int 1)))) aNil))) sNext)
    (sRet (dMakeX K xc 2 a.C_Captures (S_Captures_initX K a) [] (mVal (dVar 2) mNil))))))))))))
def td_law_result (K : PySem.W.Frag) (a : Ad) : DTS (nf a) :=
    (sSeq (sTryH K (fun xc => (sSet 3 (dTup (aCons (dC (.str "pairs")) (aCons (dFld a.C_Captures "pairs" (dCallX xc 3 (S_law_joined a) [] (mVal (dVar 0) (mVal (dVar 1) (mVal (dVar 2) mNil))))) aNil))))) [(.ref a.C_BadPair, some 4, fun xa xC xd => (sSet 3 (dTup (aCons (dC (.str "error")) (aCons (dCall 1 ((S_law_family K a) xa xC xd) [] (mSlot 4 mNil)) (aCons (dExF K xa xC xd 4 "pair") aNil))))))] xc0)
    (sRet (dVar 3)))
def td_law (K : PySem.W.Frag) (a : Ad) : DTS (nf a) :=
    (sSeq (sSet 1 (dLc (iR1 (aCons (dCB fMin (aCons (dC (.int 63)) (aCons (dCB fMax (aCons (dC (.int 1)) (aCons (dCB fLenR (aCons (dVar 0) aNil)) aNil))) aNil))) aNil)) (gN 2) dYes (dCallT 1 (S_law_item K a) 2 (S_law_tape K a) (mVal (dVar 0) (mVal (dVar 2) mNil)) mNil) [2]))
    (sSeq (sSet 3 (dLc (iL (dVar 1)) (gN 4) dYes (dF ixD (dVar 4) (dC (.int 1))) [4]))
    (sSeq (sSet 5 (dLc (iL (dVar 1)) (gN 4) (dBv (dEqG false (dF ixD (dVar 4) (dC (.int 0))) (dC (.str "bad")))) (dF ixD (dVar 4) (dC (.int 1))) [4]))
    (sSeq (sSet 6 (dMakeX K xc0 2 a.C_Captures (S_Captures_initX K a) [] (mVal (dLst (aCons (dTup (aCons (dC (.int 0)) (aCons (dC (.str "x")) aNil))) (aCons (dTup (aCons (dC (.int 1)) (aCons (dC (.str "y")) aNil))) aNil))) mNil)))
    (sSeqC (sFor (iT (dTup (aCons (dC (.int 0)) (aCons (dC (.int 1)) (aCons (dC (.int 2)) (aCons (dC (.int 3)) (aCons (dC (.int 4)) (aCons (dC (.int 5)) (aCons (dC (.int 6)) (aCons (dC (.int 7)) (aCons (dC (.int 9)) aNil))))))))))) (gN 7) (sFor (iT (dTup (aCons (dCB fList (aCons (dVar 3) aNil)) (aCons (dCB fTuple (aCons (dVar 3) aNil)) aNil)))) (gN 8) (sSeq (sSet 9 (dCall 3 (S_law_result a) [] (mVal (dVar 6) (mVal (dVar 7) (mVal (dVar 8) mNil)))))
    (sSeq (sIf (dAnd (dBv (dEqG true (dVar 5) (dLst aNil))) (dBv (dEqG true (dVar 9) (dTup (aCons (dC (.str "error")) (aCons (dC (.bl true)) (aCons (dF ixD (dVar 5) (dC (.int 0))) aNil))))))) (sRet (dC (.bl false))) sNext)
    (sSeq (sIf (dAnd (dBv (dEqG false (dVar 5) (dLst aNil))) (dBv (dEqG true (dF ixD (dVar 9) (dC (.int 0))) (dC (.str "pairs"))))) (sRet (dC (.bl false))) sNext)
    (sIf (dOr (dBv (dEqG true (dFld a.C_Captures "pairs" (dVar 6)) (dTup (aCons (dTup (aCons (dC (.int 0)) (aCons (dC (.str "x")) aNil))) (aCons (dTup (aCons (dC (.int 1)) (aCons (dC (.str "y")) aNil))) aNil))))) (dBv (dEqG true (dCB fList (aCons (dVar 8) aNil)) (dVar 3)))) (sRet (dC (.bl false))) sNext))))))
    (sSeq (sSet 10 (dCall 3 (S_law_result a) [] (mVal (dVar 6) (mVal (dC (.int 8)) (mVal (dCB fList (aCons (dVar 3) aNil)) mNil)))))
    (sSeq (sIf (dBv (dEqG false (dF ixD (dF ixD (dVar 1) (dNeg (dC (.int 1)))) (dC (.int 0))) (dC (.str "bad")))) (sRet (dEqG false (dVar 10) (dTup (aCons (dC (.str "error")) (aCons (dC (.bl true)) (aCons (dF ixD (dVar 3) (dNeg (dC (.int 1)))) aNil)))))) sNext)
    (sSeq (sIf (dBv (dEqG true (dVar 10) (dTup (aCons (dC (.str "pairs")) (aCons (dTup (aCons (dF ixD (dVar 3) (dNeg (dC (.int 1)))) aNil)) aNil))))) (sRet (dC (.bl false))) sNext)
    (sRet (dOrV (dEqG true (dVar 5) (dLst aNil)) (dEqG false (dCall 3 (S_law_result a) [] (mVal (dVar 6) (mVal (dC (.int 9)) (mVal (dCB fList (aCons (dVar 3) aNil)) mNil)))) (dTup (aCons (dC (.str "pairs")) (aCons (dCB fTuple (aCons (dCall 1 (S_law_ascending a) [] (mVal (dVar 3) mNil)) aNil)) aNil))))))))))))))
open PySem L2 DL
open DS (Pr ltM)
local macro_rules | `(tactic| walk_at "dn") => `(tactic| first | (simp only [List.set_cons_zero, List.set_cons_succ, List.map_cons, List.map_nil, List.append_nil, List.nil_append, List.cons_append, rs_v, rs_o, pb_nil, pb_v, pb_o, back_nil, back_fz, back_un, back_ow, wp_nil, wp_cons, List.getElem?_cons_zero, List.getElem?_cons_succ, Option.getD_some, stP1, stP2, stP3]; exact rfl) | exact rfl)
local macro_rules | `(tactic| walk_at "db") => `(tactic| repeat first | exact bo_nil | refine bo_fz ?_ | refine bo_un ?_ | refine bo_ow ?_ | refine bo_fr ?_)
local macro_rules | `(tactic| walk_at "dk") => `(tactic| first | exact kb1 | exact kb2 | exact kb3 | exact kb4 | exact kb5 | exact kb6)
local macro_rules | `(tactic| walk_at "da") => `(tactic| first | assumption | omega | decide | (exact Or.inl ⟨by omega, by omega⟩) | (exact Or.inr ⟨by omega, by omega⟩) | (exact ⟨by decide, by decide⟩) | (exact ⟨by decide, by decide, by omega⟩))
local macro_rules | `(tactic| walk_at "dk") => `(tactic| first | exact kb1 | exact kb2 | exact kb3 | exact kb4 | exact kb5 | exact kb6 | exact kb7 | exact kb8 | exact kb9 | exact kb10 | exact kb11 | exact kb12 | exact kb13 | exact kb14 | exact kb15 | exact kb16 | exact kb17 | exact kb18 | exact kb19 | exact kb20 | exact kb21 | exact kb22 | exact kb23 | exact kb24 | exact kb25 | exact kb26 | exact kb27 | exact kb28 | exact kb29 | exact kb30 | exact kb31 | exact kb32 | exact kb33 | exact kb34 | exact kb35 | exact kb36 | exact kb37)
local macro_rules | `(tactic| walk_at "@a3227") => `(tactic| ((with_reducible refine' dVar_s ?e0 ?_); (case e0 => exact rfl)))
local macro_rules | `(tactic| walk_at "@b5b11") => `(tactic| ((with_reducible refine' gN_s ?e0 ?e1 ?_); (case e0 => exact rfl); (case e1 => walk_at "dn")))
local macro_rules | `(tactic| walk_at "@07f84") => `(tactic| ((with_reducible refine' gT_s ?e0 ?_); (case e0 => exact rfl)))
local macro_rules | `(tactic| walk_at "@323ff") => `(tactic| ((with_reducible refine' eqT_s ?e0 ?_); (case e0 => exact rfl)))
local macro_rules | `(tactic| walk_at "@98747") => `(tactic| ((with_reducible refine' callK_s ?e0 ?e1 ?e2 ?e3 ?e4 ?_); (case e0 => exact rfl); (case e1 => walk_at "dn"); (case e2 => exact rfl); (case e3 => exact rfl); (case e4 => walk_at "dn")))
local macro_rules | `(tactic| walk_at "@f686d") => `(tactic| ((with_reducible refine' putK_s ?e0 ?_); (case e0 => walk_at "dn")))
local macro_rules | `(tactic| walk_at "@f1e75") => `(tactic| ((with_reducible refine' mkK_s ?e0 ?_); (case e0 => walk_at "dn")))
local macro_rules | `(tactic| walk_at "@0442c") => `(tactic| ((with_reducible refine' iteT_s ?e0 ?_); (case e0 => (first | exact rfl | assumption))))
local macro_rules | `(tactic| walk_at "@89822") => `(tactic| ((with_reducible refine' iteF_s ?e0 ?_); (case e0 => (first | exact rfl | assumption))))
local macro_rules | `(tactic| walk_at "@42401") => `(tactic| ((with_reducible refine' isiStr_s ?e0 ?_); (case e0 => walk_at "dk")))
local macro_rules | `(tactic| walk_at "@aba31") => `(tactic| ((with_reducible refine' isiInt_s ?e0 ?_); (case e0 => walk_at "dk")))
local macro_rules | `(tactic| walk_at "@1af17") => `(tactic| ((with_reducible refine' cbLenS_s ?e0 ?_); (case e0 => walk_at "da")))
local macro_rules | `(tactic| walk_at "@b9b76") => `(tactic| ((with_reducible refine' lcK_s ?e0 ?_); (case e0 => walk_at "dn")))
local macro_rules | `(tactic| walk_at "@17e17") => `(tactic| ((with_reducible refine' fnRt_s ?e0 ?e1 ?_); (case e0 => walk_at "db"); (case e1 => walk_at "dn")))
local macro_rules | `(tactic| walk_at "@cb416") => `(tactic| ((with_reducible refine' fnNx_s ?e0 ?e1 ?_); (case e0 => walk_at "db"); (case e1 => walk_at "dn")))
local macro_rules | `(tactic| walk_at "@c1008") => `(tactic| ((with_reducible refine' raiseK_s ?e0 ?e1 ?_); (case e0 => exact rfl); (case e1 => exact rfl)))
local macro_rules | `(tactic| walk_at "@04557") => `(tactic| ((with_reducible refine' callXK_s ?e0 ?e1 ?e2 ?e3 ?e4 ?_); (case e0 => exact rfl); (case e1 => walk_at "dn"); (case e2 => exact rfl); (case e3 => exact rfl); (case e4 => walk_at "dn")))
local macro_rules | `(tactic| walk_at "@03faf") => `(tactic| ((with_reducible refine' putXK_s ?e0 ?_); (case e0 => walk_at "dn")))
local macro_rules | `(tactic| walk_at "@04db9") => `(tactic| ((with_reducible refine' fnXc_s ?e0 ?e1 ?_); (case e0 => walk_at "db"); (case e1 => walk_at "dn")))
local macro_rules | `(tactic| walk_at "@a93ce") => `(tactic| ((with_reducible refine' makeXK_s ?e0 ?e1 ?e2 ?e3 ?e4 ?e5 ?_); (case e0 => exact rfl); (case e1 => walk_at "dn"); (case e2 => walk_at "dz"); (case e3 => exact rfl); (case e4 => exact rfl); (case e5 => walk_at "dn")))
local macro_rules | `(tactic| walk_at "@be00e") => `(tactic| ((with_reducible refine' dMakeLX_s ?e0 ?_); (case e0 => exact rfl)))
local macro_rules | `(tactic| walk_at "@c5797") => `(tactic| ((with_reducible refine' mkXK_s ?e0 ?_); (case e0 => walk_at "dn")))
local macro_rules | `(tactic| walk_at "@ad81e") => `(tactic| ((with_reducible refine' isiBl_s ?e0 ?_); (case e0 => walk_at "dk")))
local macro_rules | `(tactic| walk_at "@2a081") => `(tactic| ((with_reducible refine' isiNon_s ?e0 ?_); (case e0 => walk_at "dk")))
local macro_rules | `(tactic| walk_at "@23602") => `(tactic| ((with_reducible refine' isiTup_s ?e0 ?_); (case e0 => walk_at "dk")))
local macro_rules | `(tactic| walk_at "@1bb6e") => `(tactic| ((with_reducible refine' isiLst_s ?e0 ?_); (case e0 => walk_at "dk")))
def signB : D → Bool
  | .str t => t.cps.toList.all fun c => decide (c ∈ letters.cps.toList) || decide (c ∈ digits.cps.toList)
  | _ => false
local macro_rules | `(tactic| walk_at "dz") => `(tactic| (simp [nf, nf0]; done))
theorem word_str {K : PySem.W.Frag} {a : Ad} {Qd : D → List (SD (nf a)) → Prop} {s : Str} (hs : s.length ≤ 1000000) (q : Qd (.bl (isWordB s)) [.fz (.str s)]) : td_is_word K a (fnEnds [.fz (.str s)] Qd) [.fz (.str s), .un] := bxU (by simp (disch := with_unfolding_all
  unfold td_is_word
  (walk_at "~31"; walk_at "@42401"; walk_at "~4"; walk_at "~17"; (with_reducible refine dChain_s ?_; refine dC_s ?_); walk_at "~21"; walk_at "@1af17"; (with_reducible refine chK_s ?_))
  refine ite_s (fun h1 => ?_) (fun h1 => ?_)
  · ((with_reducible refine dC_s ?_; refine chK2_s ?_; refine bvK_s ?_))
    have h1' : 1 ≤ s.length := by have := of_decide_eq_true h1; omega
    refine ite_s (fun h2 => ?_) (fun h2 => ?_)
    · (walk_at "~28")
      have e : isWordB s = false := by
        have h2' : ¬ s.length ≤ 12 := fun z => by
          simp only [cLe, Bool.not_eq_true', decide_eq_false_iff_not] at h2
          omega
        simp [isWordB, h2']
      rw [e] at q
      exact q
    · ((with_reducible refine sNext_s ?_; refine sRet_s ?_); walk_at "~5"; (with_reducible refine dLc_s ?_; refine iS_s ?_); walk_at "@a3227"; (with_reducible refine isK_s ?_); walk_at "@b9b76")
      have h2' : s.length ≤ 12 := by
        simp only [cLe, Bool.not_eq_false', decide_eq_true_eq] at h2
        omega
      refine lc_map (fun x => .bl (signB x)) rfl (fun x hx R r => ?_) (by rw [signs_len]; omega) ?_
      · obtain ⟨c, hc, rfl⟩ := mem_signs hx
        show dOrV _ _ [.fz (.str s), .fz (.str ⟨#[c]⟩)] R
        have r' : R (.bl (decide (c ∈ letters.cps.toList) || decide (c ∈ digits.cps.toList))) [.fz (.str s), .fz (.str ⟨#[c]⟩)] := by simpa [signB] using r
        ((with_reducible refine dOrV_s ?_); walk_at "~55"; (with_reducible refine inS_s ?_; refine orVK_s ?_))
        refine ite_s (fun h3 => ?_) (fun h3 => ?_)
        · rw [show decide (c ∈ letters.cps.toList) = true from h3] at r'
          exact r'
        · rw [show decide (c ∈ letters.cps.toList) = false from h3] at r'
          (walk_at "~55"; (with_reducible refine inS_s ?_))
          exact r'
      · ((with_reducible refine aNil_s ?_))
        refine cbK_s ⟨(signsD s).map signB, by simp, rfl⟩ ?_
        (walk_at "@17e17")
        have e : isWordB s = ((signsD s).map signB).all id := by
          simp [isWordB, h1', h2', signsD, signB, Function.comp_def, List.all_map]
        rw [e] at q
        exact q
  · (walk_at "~16"; walk_at "~28")
    have e : isWordB s = false := by
      have h1' : ¬ 1 ≤ s.length := fun z => by
        simp only [cLe, decide_eq_false_iff_not] at h1
        omega
      simp only [isWordB, h1', decide_false, Bool.false_and]
    rw [e] at q
    exact q) only [bxI])
theorem ident_str {K : PySem.W.Frag} {a : Ad} {Qd : D → List (SD (nf a)) → Prop} {s : Str} (hs : s.length ≤ 1000000) (q : Qd (.bl (isIdB s)) [.fz (.str s)]) : td_is_identifier K a (fnEnds [.fz (.str s)] Qd) [.fz (.str s)] := bxU (by simp (disch := with_unfolding_all
  unfold td_is_identifier
  (walk_at "~61"; walk_at "~29"; walk_at "~9")
  refine ⟨.str s, rfl, hs, ?_⟩
  (walk_at "~80")
  show if isWordB s = true then _ else _
  refine ite_s (fun hw => ?_) (fun hw => ?_)
  · ((with_reducible refine dAndV_s ?_); walk_at "~44"; walk_at "~6")
    obtain ⟨c, r, e⟩ : ∃ c r, s.cps.toList = c :: r := by
      cases h : s.cps.toList with
      | nil =>
        have : s.length = 0 := by show s.cps.size = 0; rw [← Array.length_toList, h]; rfl
        simp [isWordB, this] at hw
      | cons c r => exact ⟨c, r, rfl⟩
    refine ixS_s (c := c) hs (by rw [e]; exact atI_zero) ?_
    ((with_reducible refine dC_s ?_; refine inS_s ?_; refine andVK_s ?_))
    have q' : Qd (.bl (decide (c ∈ letters.cps.toList) && !inV (.str s) keptV)) [.fz (.str s)] := by simpa [isIdB, headB, hw, e] using q
    refine ite_s (fun h3 => ?_) (fun h3 => ?_)
    · rw [show decide (c ∈ letters.cps.toList) = true from h3] at q'
      (walk_at "~55")
      refine ninT_s (b := inV (.str s) keptV) (by rfl) ?_
      (walk_at "@17e17")
      exact q'
    · rw [show decide (c ∈ letters.cps.toList) = false from h3] at q'
      (walk_at "@17e17")
      exact q'
  · (walk_at "@17e17")
    have e : isIdB s = false := by simp [isIdB, hw]
    rw [e] at q
    exact q) only [bxI])
theorem d_is_word {K : PySem.W.Frag} {a : Ad} : ∀ as Qd, as.length = 1 → (S_is_wordA a) as Qd → td_is_word K a (fnEnds as Qd) (as ++ List.replicate (2 - 1) .un) := bxU (by simp (disch := with_unfolding_all
  rintro as Qd hl ⟨d, rfl, hd, q⟩
  show td_is_word K a (fnEnds _ Qd) [.fz d, .un]
  cases d with
  | str s => exact word_str hd q
  | non => unfold td_is_word; (walk_at "~31"; walk_at "@2a081"; walk_at "~49"); exact q
  | bl b => unfold td_is_word; (walk_at "~31"; walk_at "@ad81e"; walk_at "~49"); exact q
  | int i => unfold td_is_word; (walk_at "~31"; walk_at "@aba31"; walk_at "~49"); exact q
  | tup xs => unfold td_is_word; (walk_at "~58"; walk_at "~49"); exact q
  | lst xs => unfold td_is_word; (walk_at "~31"; walk_at "@1bb6e"; walk_at "~49"); exact q
  | _ => exact hd.elim) only [bxI])
theorem d_is_identifier {K : PySem.W.Frag} {a : Ad} : ∀ as Qd, as.length = 1 → (S_is_identifierA a) as Qd → td_is_identifier K a (fnEnds as Qd) (as ++ List.replicate (1 - 1) .un) := bxU (by simp (disch := with_unfolding_all
  rintro as Qd hl ⟨d, rfl, hd, q⟩
  show td_is_identifier K a (fnEnds _ Qd) [.fz d]
  cases d with
  | str s => exact ident_str hd q
  | non => unfold td_is_identifier; (walk_at "~61"; walk_at "~29"; walk_at "~9"); refine ⟨_, rfl, hd, ?_⟩; (walk_at "~80"; walk_at "@89822"; walk_at "@17e17"); exact q
  | bl b => unfold td_is_identifier; (walk_at "~61"; walk_at "~29"; walk_at "~9"); refine ⟨_, rfl, hd, ?_⟩; (walk_at "~80"; walk_at "@89822"; walk_at "@17e17"); exact q
  | int i => unfold td_is_identifier; (walk_at "~61"; walk_at "~29"; walk_at "~9"); refine ⟨_, rfl, hd, ?_⟩; (walk_at "~80"; walk_at "@89822"; walk_at "@17e17"); exact q
  | tup xs => unfold td_is_identifier; (walk_at "~61"; walk_at "~29"; walk_at "~9"); refine ⟨_, rfl, hd, ?_⟩; (walk_at "~80"; walk_at "@89822"; walk_at "@17e17"); exact q
  | lst xs => unfold td_is_identifier; (walk_at "~61"; walk_at "~29"; walk_at "~9"); refine ⟨_, rfl, hd, ?_⟩; (walk_at "~80"; walk_at "@89822"; walk_at "@17e17"); exact q
  | _ => exact hd.elim) only [bxI])
theorem d_is_pair {K : PySem.W.Frag} {a : Ad} : ∀ as Qd, as.length = 1 → (S_is_pairA a) as Qd → td_is_pair K a (fnEnds as Qd) (as ++ List.replicate (3 - 1) .un) := bxU (by simp (disch := with_unfolding_all
  rintro as Qd hl ⟨d, rfl, ⟨hd, hp⟩, q⟩
  show td_is_pair K a (fnEnds _ Qd) [.fz d, .un, .un]
  cases d with
  | str s => unfold td_is_pair; (walk_at "~31"; walk_at "@42401"; walk_at "~49"); exact q
  | non => unfold td_is_pair; (walk_at "~31"; walk_at "@2a081"; walk_at "~49"); exact q
  | bl b => unfold td_is_pair; (walk_at "~31"; walk_at "@ad81e"; walk_at "~49"); exact q
  | int i => unfold td_is_pair; (walk_at "~31"; walk_at "@aba31"; walk_at "~49"); exact q
  | lst xs => unfold td_is_pair; (walk_at "~31"; walk_at "@1bb6e"; walk_at "~49"); exact q
  | tup xs =>
    unfold td_is_pair
    match xs, hd, hp, q with
    | [], _, _, q => (walk_at "~58"; walk_at "~60"; walk_at "~56"; walk_at "~46"; walk_at "~16"; walk_at "~28"); exact q
    | [_], _, _, q => (walk_at "~58"; walk_at "~60"; walk_at "~56"; walk_at "~46"; walk_at "~16"; walk_at "~28"); exact q
    | _ :: _ :: _ :: t, hd, _, q => (walk_at "~58"; walk_at "~60"; walk_at "~56"; walk_at "~46"; walk_at "~16"; walk_at "~28"); exact q
    | [n, i], _, hp, q =>
      obtain ⟨hn, hi⟩ := hp n i rfl
      have q2 : ∀ b, isNumD n = b → Qd (.bl (b && isIdD i)) [.fz (.tup [n, i])] := fun b e => by rw [← e]; exact q
      cases n with
      | int j =>
        (walk_at "~58"; walk_at "~60"; walk_at "~56"; walk_at "~46"; walk_at "~8"; walk_at "~74"; walk_at "@a3227"; walk_at "@07f84"; walk_at "~35"; walk_at "~35"; (with_reducible refine gsNil_s ?_); walk_at "~31"; walk_at "@aba31"; walk_at "~4"; (with_reducible refine dOr_s ?_; refine dBv_s ?_); walk_at "~27"; walk_at "@aba31"; walk_at "~4"; walk_at "~17"; (with_reducible refine dChain_s ?_; refine dC_s ?_); walk_at "@a3227"; (with_reducible refine chK_s ?_))
        by_cases h0 : 0 ≤ j
        · rw [show cLe 0 j = true by simpa [cLe] using h0]
          (walk_at "@0442c"; (with_reducible refine dC_s ?_; refine chK2_s ?_; refine bvK_s ?_))
          by_cases h1 : j < 10 ^ 60
          · rw [show cLt j (10 ^ 60) = true by simpa [cLt] using h1]
            (walk_at "~59"; (with_reducible refine sRet_s ?_); walk_at "~29"; walk_at "~9")
            refine ⟨i, rfl, hi, ?_⟩
            (walk_at "@f686d"; walk_at "@17e17")
            exact q2 true (by simp only [isNumD, decide_eq_true h0, decide_eq_true h1]; rfl)
          · rw [show cLt j (10 ^ 60) = false by simpa [cLt] using h1]
            (walk_at "~37")
            exact q2 false (by simp only [isNumD, decide_eq_false h1, Bool.and_false])
        · rw [show cLe 0 j = false by simpa [cLe] using h0]
          (walk_at "@89822"; walk_at "~16"; walk_at "~28")
          exact q2 false (by simp only [isNumD, decide_eq_false h0, Bool.false_and])
      | str s => (walk_at "~58"; walk_at "~60"; walk_at "~56"; walk_at "~46"; walk_at "~8"; walk_at "~74"; walk_at "@a3227"; walk_at "@07f84"; walk_at "~35"; walk_at "~35"; (with_reducible refine gsNil_s ?_); walk_at "~31"; walk_at "@42401"; walk_at "~49"); exact q2 false rfl
      | non => (walk_at "~58"; walk_at "~60"; walk_at "~56"; walk_at "~46"; walk_at "~8"; walk_at "~74"; walk_at "@a3227"; walk_at "@07f84"; walk_at "~35"; walk_at "~35"; (with_reducible refine gsNil_s ?_); walk_at "~31"; walk_at "@2a081"; walk_at "~49"); exact q2 false rfl
      | bl b => (walk_at "~58"; walk_at "~60"; walk_at "~56"; walk_at "~46"; walk_at "~8"; walk_at "~74"; walk_at "@a3227"; walk_at "@07f84"; walk_at "~35"; walk_at "~35"; (with_reducible refine gsNil_s ?_); walk_at "~31"; walk_at "@ad81e"; walk_at "~4"; (with_reducible refine dOr_s ?_; refine dBv_s ?_); walk_at "~27"; walk_at "@ad81e"; walk_at "~49"); exact q2 false rfl
      | tup xs => (walk_at "~58"; walk_at "~60"; walk_at "~56"; walk_at "~46"; walk_at "~8"; walk_at "~74"; walk_at "@a3227"; walk_at "@07f84"; walk_at "~35"; walk_at "~35"; (with_reducible refine gsNil_s ?_); walk_at "~58"; walk_at "~49"); exact q2 false rfl
      | lst xs => (walk_at "~58"; walk_at "~60"; walk_at "~56"; walk_at "~46"; walk_at "~8"; walk_at "~74"; walk_at "@a3227"; walk_at "@07f84"; walk_at "~35"; walk_at "~35"; (with_reducible refine gsNil_s ?_); walk_at "~31"; walk_at "@1bb6e"; walk_at "~49"); exact q2 false rfl
      | _ => exact hn.elim
  | _ => exact hd.elim) only [bxI])
theorem id_ok {s : Str} (h : isIdB s = true) : PyData.strOk s = true := by
  unfold isIdB isWordB at h
  simp only [Bool.and_eq_true, List.all_eq_true, Bool.or_eq_true, decide_eq_true_eq] at h
  unfold PyData.strOk
  rw [Array.all_eq_true_iff_forall_mem]
  intro c hc
  have hb : ∀ c ∈ letters.cps.toList ++ digits.cps.toList, c < 1114112 := by decide +kernel
  have := hb c (List.mem_append.mpr (h.1.1.2 c (by simpa using hc)))
  simpa using this
theorem id_len {s : Str} (h : isIdB s = true) : s.length ≤ 12 := bxU (by simp (disch := with_unfolding_all
  unfold isIdB isWordB at h
  simp only [Bool.and_eq_true, decide_eq_true_eq] at h
  exact h.1.1.1.2) only [bxI])
theorem goodP.ok {p : Pr} (h : goodP p) : okP p := id_ok h.2.2
theorem good_ok {l : List Pr} (h : ∀ p ∈ l, goodP p) : ∀ p ∈ l, okP p := fun p hp => (h p hp).ok
theorem few_len {l : List Pr} (h : l.length ≤ 500) : DS.FewP l := ⟨l, Nat.lt_of_le_of_lt h (by decide), fun p hp => hp⟩
theorem pair_of {d : D} (h : isPairD d = true) : ∃ p : Pr, d = pairD p ∧ goodP p := bxU (by simp (disch := with_unfolding_all
  cases d with
  | tup xs =>
    match xs, h with
    | [n, i], h =>
      have h : (isNumD n && isIdD i) = true := h
      simp only [Bool.and_eq_true] at h
      obtain ⟨h1, h2⟩ := h
      cases n with
      | int j =>
        cases i with
        | str s =>
          have h1 : (decide (0 ≤ j) && decide (j < 10 ^ 60)) = true := h1
          simp only [Bool.and_eq_true, decide_eq_true_eq] at h1
          exact ⟨(j, s), rfl, h1.1, h1.2, h2⟩
        | _ => cases h2
      | _ => cases h1
    | [], h => cases h
    | [_], h => cases h
    | _ :: _ :: _ :: _, h => cases h
  | _ => cases h) only [bxI])
theorem prs_of : ∀ {ds : List D}, badL ds = none → ∃ ps : List Pr, ds = ps.map pairD ∧ ∀ p ∈ ps, goodP p
  | [], _ => ⟨[], rfl, fun p m => by cases m⟩
  | d :: ds, h => by
    unfold badL at h
    rw [List.find?_cons] at h
    cases e : isPairD d with
    | false => rw [e] at h; cases h
    | true =>
      rw [e] at h
      obtain ⟨ps, e2, hg⟩ := prs_of (ds := ds) h
      obtain ⟨p, e3, gp⟩ := pair_of e
      exact ⟨p :: ps, by rw [e2, e3]; rfl, fun q m => by
        rcases List.mem_cons.mp m with rfl | m
        · exact gp
        · exact hg q m⟩
/-- at an error the parameters are as they were -/
theorem d_in_order {K : PySem.W.Frag} {a : Ad} : ∀ as Qd Xd, as.length = 1 → (S_in_orderX a) as Qd Xd → td_in_order K a (fnXc as Xd) (fnEnds as Qd) (as ++ List.replicate (2 - 1) .un) := bxU (by simp (disch := with_unfolding_all
  rintro as Qd Xd hl ⟨d, ds, rfl, ⟨hd, hi, hn⟩, qx, q⟩
  show td_in_order K a _ (fnEnds _ Qd) [.fz d, .un]
  unfold td_in_order
  ((with_reducible refine sSeq_s ?_; refine sFor_s ?_; refine iQ_s ?_); walk_at "@a3227")
  have hI : ∀ R : List D → EV (nf a) → Prop, R ds [.fz d, .un] → IqK R d [.fz d, .un] := fun R r => ⟨ds, hd, r⟩
  refine hI _ ?_
  refine for_inv (fun es env => ∃ (s1 : SD (nf a)), (∀ x ∈ es, Itm x) ∧ badL es = badL ds ∧ env = [.fz d, s1]) ?_ ?_ _ _ ⟨.un, hi, rfl, rfl⟩
  · rintro y es env R ⟨s1, hit, hb, rfl⟩ hR
    (walk_at "@b5b11"; (with_reducible refine sIf_s ?_); walk_at "~17"; walk_at "~29"; walk_at "~9")
    refine ⟨y, rfl, hit y List.mem_cons_self, ?_⟩
    unfold badL at hb
    rw [List.find?_cons] at hb
    cases e : isPairD y with
    | true =>
      (walk_at "@f686d"; walk_at "~8")
      rw [e] at hb
      exact hR _ ⟨_, fun x m => hit x (List.mem_cons_of_mem _ m), hb, rfl⟩
    | false =>
      (walk_at "@f686d"; walk_at "~16"; (with_reducible refine sRaise_s ?_); walk_at "~38"; (with_reducible refine aNil_s ?_); walk_at "@c1008"; walk_at "@04db9")
      rw [e] at hb
      exact qx y hb.symm
  · rintro env ⟨s1, hit, hb, rfl⟩
    have hb : badL ds = none := hb.symm
    obtain ⟨ps, rfl, hg⟩ := prs_of hb
    have hf := few_len (l := ps) (by rw [List.length_map] at hn; exact hn)
    ((with_reducible refine sRet_s ?_); walk_at "~5"; (with_reducible refine dSortSet_s ?_); walk_at "~38"; (with_reducible refine aNil_s ?_))
    rcases hd with rfl | rfl
    · refine sortSetL_s hf ?_
      ((with_reducible refine aNil_s ?_; refine cbTuple_s ?_); walk_at "@17e17")
      exact q hb ps rfl hg
    · refine sortSetT_s hf ?_
      ((with_reducible refine aNil_s ?_; refine cbTuple_s ?_); walk_at "@17e17")
      exact q hb ps rfl hg) only [bxI])
theorem d_Captures_init {K : PySem.W.Frag} {a : Ad} : ∀ as Qd Xd, as.length = 2 → (S_Captures_initX K a) as Qd Xd → td_Captures_init K a (fnXc as Xd) (fnEnds as Qd) (as ++ List.replicate (2 - 2) .un) := bxU (by simp (disch := with_unfolding_all
  rintro as Qd Xd hl ⟨v, d, ds, rfl, hs, qx, q⟩
  show td_Captures_init K a _ (fnEnds _ Qd) [.ow v (insA K (nf a) a.C_Captures []), .fz d]
  unfold td_Captures_init
  ((with_reducible refine sFldS_s ?_); walk_at "~66")
  refine ⟨d, ds, rfl, hs, fun x ex => ?_, fun hb ps e hg => ?_⟩
  · (walk_at "~53")
    exact qx x ex
  · (walk_at "@f686d")
    refine fldLast_s rfl rfl (by decide) (by simp [nf, nf0]) rfl ?_
    (walk_at "@cb416")
    exact q hb ps e hg) only [bxI])
theorem d_Captures_of {K : PySem.W.Frag} {a : Ad} : ∀ as Qd Xd, as.length = 2 → (S_Captures_ofX a) as Qd Xd → td_Captures_of K a (fnXc as Xd) (fnEnds as Qd) (as ++ List.replicate (2 - 2) .un) := bxU (by simp (disch := with_unfolding_all
  rintro as Qd Xd hl ⟨ds, rfl, hs, qx, q⟩
  show td_Captures_of K a _ (fnEnds _ Qd) [.fz (.cls a.C_Captures), .fz (.tup ds)]
  unfold td_Captures_of
  ((with_reducible refine sRet_s ?_); walk_at "@be00e"; (with_reducible refine dMakeX_s ?_); walk_at "~36"; walk_at "@a93ce")
  refine fun y => ⟨_, _, ds, rfl, hs, fun x ex => ?_, fun hb ps e hg => ?_⟩
  · (walk_at "@c5797"; walk_at "@04db9")
    exact qx x ex
  · (walk_at "~54")
    exact q hb ps e hg) only [bxI])
theorem d_pairs_of {K : PySem.W.Frag} {a : Ad} (iC : IsiC K a.C_Captures) (kl : PySem.W.kitOne K (.type "list") (.ref a.C_Captures) = some false) (kp : PySem.W.kitOne K (.type "tuple") (.ref a.C_Captures) = some false) : ∀ as Qd Xd, as.length = 1 → (S_in_orderX a) as Qd Xd → td_pairs_of K a (fnXc as Xd) (fnEnds as Qd) (as ++ List.replicate (1 - 1) .un) := bxU (by simp (disch := with_unfolding_all
  rintro as Qd Xd hl ⟨d, ds, rfl, hs, qx, q⟩
  show td_pairs_of K a _ (fnEnds _ Qd) [.fz d]
  unfold td_pairs_of
  (walk_at "~1"; (with_reducible refine dBv_s ?_); walk_at "~27")
  have step : ∀ R : D → EV (nf a) → Prop, R (.bl false) [.fz d] → CbK (fIsi K) R [d, .cls a.C_Captures] [.fz d] := fun R r => by
    rcases hs.1 with rfl | rfl
    · exact isiLstC_s kl r
    · exact isiTupC_s kp r
  refine step _ ?_
  (walk_at "~8"; (with_reducible refine sRet_s ?_); walk_at "~66")
  refine ⟨d, ds, rfl, hs, fun x ex => ?_, fun hb ps e hg => ?_⟩
  · (walk_at "~53")
    exact qx x ex
  · (walk_at "@f686d"; walk_at "@17e17")
    exact q hb ps e hg) only [bxI])
open PySem L2 DL
open DS (Pr ltM)
def memB (m : List Pr) (neg : Bool) : D → Bool
  | .tup [.int i, .str s] => if neg then !decide ((i, s) ∈ m) else decide ((i, s) ∈ m)
  | _ => false
theorem filter_pairs (l m : List Pr) (neg : Bool) : ((l.map pairD).filter (memB m neg)).map id = (l.filter fun p => if neg then !decide (p ∈ m) else decide (p ∈ m)).map pairD := bxU (by simp (disch := with_unfolding_all
  rw [List.map_id, List.filter_map]
  rfl) only [bxI])
theorem d_shared_pairs {K : PySem.W.Frag} {a : Ad} : ∀ as Qd, as.length = 2 → (S_shared_pairs a) as Qd → td_shared_pairs K a (fnEnds as Qd) (as ++ List.replicate (3 - 2) .un) := bxU (by simp (disch := with_unfolding_all
  rintro as Qd hl ⟨l, m, rfl, g1, g2, hn, q⟩
  show td_shared_pairs K a (fnEnds _ Qd) [.fz (.tup (l.map pairD)), .fz (.tup (m.map pairD)), .un]
  unfold td_shared_pairs
  ((with_reducible refine sRet_s ?_; refine dLc_s ?_; refine iT_s ?_); walk_at "@a3227"; (with_reducible refine itK_s ?_); walk_at "@b9b76")
  refine lc_pure (memB m false) id rfl (fun x hx R r => ?_) (fun x hx _ R r => ?_) (by simp; omega) ?_
  · obtain ⟨p, hp, rfl⟩ := List.mem_map.mp hx
    simp only [List.set_cons_zero, List.set_cons_succ] at r ⊢
    ((with_reducible refine dBv_s ?_; refine dInX_s ?_; refine dOp_s ?_); walk_at "~45")
    refine inXT_s (g1 p hp).ok (good_ok g2) ?_
    ((with_reducible refine bvK_s ?_))
    exact r
  · simp only [List.set_cons_zero, List.set_cons_succ] at r ⊢
    (walk_at "@a3227")
    exact r
  · rw [List.nil_append, filter_pairs]
    (walk_at "@17e17")
    exact q) only [bxI])
theorem d_missing_pairs {K : PySem.W.Frag} {a : Ad} : ∀ as Qd, as.length = 2 → (S_missing_pairs a) as Qd → td_missing_pairs K a (fnEnds as Qd) (as ++ List.replicate (3 - 2) .un) := bxU (by simp (disch := with_unfolding_all
  rintro as Qd hl ⟨l, m, rfl, g1, g2, hn, q⟩
  show td_missing_pairs K a (fnEnds _ Qd) [.fz (.tup (l.map pairD)), .fz (.tup (m.map pairD)), .un]
  unfold td_missing_pairs
  ((with_reducible refine sRet_s ?_; refine dLc_s ?_; refine iT_s ?_); walk_at "@a3227"; (with_reducible refine itK_s ?_); walk_at "@b9b76")
  refine lc_pure (memB m true) id rfl (fun x hx R r => ?_) (fun x hx _ R r => ?_) (by simp; omega) ?_
  · obtain ⟨p, hp, rfl⟩ := List.mem_map.mp hx
    simp only [List.set_cons_zero, List.set_cons_succ] at r ⊢
    ((with_reducible refine dBv_s ?_; refine dInX_s ?_; refine dOp_s ?_); walk_at "~45")
    refine inXT_s (g1 p hp).ok (good_ok g2) ?_
    ((with_reducible refine bvK_s ?_))
    exact r
  · simp only [List.set_cons_zero, List.set_cons_succ] at r ⊢
    (walk_at "@a3227")
    exact r
  · rw [List.nil_append, filter_pairs]
    (walk_at "@17e17")
    exact q) only [bxI])
open PySem L2 DL
open DS (Pr ltM)
local macro_rules | `(tactic| walk_at "@d4417") => `(tactic| ((with_reducible refine' setK_s ?e0 ?e1 ?_); (case e0 => exact rfl); (case e1 => walk_at "dn")))
local macro_rules | `(tactic| walk_at "@75a28") => `(tactic| ((with_reducible refine' fldK_s ?e0 ?_); (case e0 => exact rfl)))
local macro_rules | `(tactic| walk_at "@7d8b7") => `(tactic| ((with_reducible refine' catT_s ?e0 ?_); (case e0 => (simp only [List.length_nil, List.length_cons, List.length_append, List.length_map]; omega))))
theorem good_isPair {p : Pr} (h : goodP p) : isPairD (pairD p) = true := bxU (by simp (disch := with_unfolding_all
  show (decide (0 ≤ p.1) && decide (p.1 < 10 ^ 60) && isIdB p.2) = true
  rw [decide_eq_true h.1, decide_eq_true h.2.1, h.2.2]
  rfl) only [bxI])
theorem bad_none {ps : List Pr} (h : ∀ p ∈ ps, goodP p) : badL (ps.map pairD) = none := bxU (by simp (disch := with_unfolding_all
  unfold badL
  rw [List.find?_eq_none]
  intro d m
  obtain ⟨p, hp, rfl⟩ := List.mem_map.mp m
  rw [good_isPair (h p hp)]
  simp) only [bxI])
theorem itm_pair {p : Pr} (h : goodP p) : Itm (pairD p) := by
  refine ⟨show (2 : Nat) ≤ 1000000 by decide, fun n i e => ?_⟩
  have e : D.tup [.int p.1, .str p.2] = .tup [n, i] := e
  injection e with e
  obtain ⟨e1, e2⟩ := List.cons.inj e
  obtain ⟨e2, _⟩ := List.cons.inj e2
  subst e1 e2
  exact ⟨trivial, show p.2.length ≤ 1000000 by have := id_len h.2.2; omega⟩
theorem good_ascP {ps : List Pr} (h : ∀ p ∈ ps, goodP p) : ∀ p ∈ ascP ps, goodP p := fun p m => h p (mem_ascP.mp m)
theorem init_any {K : PySem.W.Frag} {a : Ad} {y : V} {d : D} {u : List Pr} {Q : D → List (SD (nf a)) → Prop} {E : Addr → List (Str × D) → List (SD (nf a)) → Prop} (hd : d = .lst (u.map pairD) ∨ d = .tup (u.map pairD)) (hg : ∀ p ∈ u, goodP p) (hl : u.length ≤ 500)
    (q : ∀ w, (∀ p ∈ w, goodP p) → Q .non [.fr y (capD a w), .fz d]) : S_Captures_initX K a [.ow y (insA K (nf a) a.C_Captures []), .fz d] Q E :=
  ⟨y, d, u.map pairD, rfl, ⟨hd, fun x m => by
    obtain ⟨p, hp, rfl⟩ := List.mem_map.mp m
    exact itm_pair (hg p hp), by rw [List.length_map]; exact hl⟩, fun x ex => (by rw [bad_none hg] at ex; cases ex), fun _ ps _ hg' => q _ (good_ascP hg')⟩
theorem d_Captures_or {K : PySem.W.Frag} {a : Ad} : ∀ as Qd Xd, as.length = 2 → (opX a) as Qd Xd → td_Captures_or K a (fnXc as Xd) (fnEnds as Qd) (as ++ List.replicate (2 - 2) .un) := bxU (by simp (disch := with_unfolding_all
  rintro as Qd Xd hl ⟨l, y, ds, rfl, hgl, hll, hs, hn, qx, q⟩
  show td_Captures_or K a _ (fnEnds _ Qd) [.fz (capD a l), .fz y]
  unfold td_Captures_or
  (walk_at "~68"; (with_reducible refine dCatT_s ?_; refine dOp_s ?_); walk_at "~43"; walk_at "~66")
  refine ⟨y, ds, rfl, hs, fun x ex => ?_, fun hb ps e hg => ?_⟩
  · (walk_at "~53")
    exact qx x ex
  · have hm := good_ascP hg
    have hml := ascP_len ps
    have hpl : ps.length ≤ 100 := by rw [e, List.length_map] at hn; exact hn
    (walk_at "@f686d"; walk_at "@7d8b7"; walk_at "~52")
    rw [← List.map_append]
    refine fun y1 => init_any (.inr rfl) (fun p hp => ?_) (by simp only [List.length_append]; omega) fun w hw => ?_
    · rcases List.mem_append.mp hp with h | h
      · exact hgl p h
      · exact hm p h
    · (walk_at "~54")
      exact q hb w hw) only [bxI])
theorem d_Captures_ror {K : PySem.W.Frag} {a : Ad} : ∀ as Qd Xd, as.length = 2 → (opX a) as Qd Xd → td_Captures_ror K a (fnXc as Xd) (fnEnds as Qd) (as ++ List.replicate (2 - 2) .un) := bxU (by simp (disch := with_unfolding_all
  rintro as Qd Xd hl ⟨l, y, ds, rfl, hgl, hll, hs, hn, qx, q⟩
  show td_Captures_ror K a _ (fnEnds _ Qd) [.fz (capD a l), .fz y]
  unfold td_Captures_ror
  (walk_at "~68"; (with_reducible refine dCatT_s ?_; refine dOp_s ?_); walk_at "~66")
  refine ⟨y, ds, rfl, hs, fun x ex => ?_, fun hb ps e hg => ?_⟩
  · (walk_at "~53")
    exact qx x ex
  · have hm := good_ascP hg
    have hml := ascP_len ps
    have hpl : ps.length ≤ 100 := by rw [e, List.length_map] at hn; exact hn
    (walk_at "@f686d"; walk_at "~43"; walk_at "@7d8b7"; walk_at "~52")
    rw [← List.map_append]
    refine fun y1 => init_any (.inr rfl) (fun p hp => ?_) (by simp only [List.length_append]; omega) fun w hw => ?_
    · rcases List.mem_append.mp hp with h | h
      · exact hm p h
      · exact hgl p h
    · (walk_at "~54")
      exact q hb w hw) only [bxI])
theorem d_Captures_and {K : PySem.W.Frag} {a : Ad} : ∀ as Qd Xd, as.length = 2 → (opX a) as Qd Xd → td_Captures_and K a (fnXc as Xd) (fnEnds as Qd) (as ++ List.replicate (2 - 2) .un) := bxU (by simp (disch := with_unfolding_all
  rintro as Qd Xd hl ⟨l, y, ds, rfl, hgl, hll, hs, hn, qx, q⟩
  show td_Captures_and K a _ (fnEnds _ Qd) [.fz (capD a l), .fz y]
  unfold td_Captures_and
  (walk_at "~68"; (with_reducible refine dCall_s ?_); walk_at "~69"; (with_reducible refine mVal_s ?_); walk_at "~66")
  refine ⟨y, ds, rfl, hs, fun x ex => ?_, fun hb ps e hg => ?_⟩
  · (walk_at "~53")
    exact qx x ex
  · have hm := good_ascP hg
    have hml := ascP_len ps
    have hpl : ps.length ≤ 100 := by rw [e, List.length_map] at hn; exact hn
    (walk_at "@f686d"; walk_at "~9")
    refine ⟨l, ascP ps, rfl, hgl, hm, by omega, ?_⟩
    (walk_at "@f686d"; walk_at "~52")
    refine fun y1 => init_any (.inl rfl) (fun p hp => ?_) (by have := List.length_filter_le (fun p => decide (p ∈ ascP ps)) l; omega) fun w hw => ?_
    · exact hgl p (List.mem_filter.mp hp).1
    · (walk_at "~54")
      exact q hb w hw) only [bxI])
theorem d_Captures_rand {K : PySem.W.Frag} {a : Ad} : ∀ as Qd Xd, as.length = 2 → (opX a) as Qd Xd → td_Captures_rand K a (fnXc as Xd) (fnEnds as Qd) (as ++ List.replicate (2 - 2) .un) := bxU (by simp (disch := with_unfolding_all
  rintro as Qd Xd hl ⟨l, y, ds, rfl, hgl, hll, hs, hn, qx, q⟩
  show td_Captures_rand K a _ (fnEnds _ Qd) [.fz (capD a l), .fz y]
  unfold td_Captures_rand
  (walk_at "~68"; (with_reducible refine dCall_s ?_); walk_at "~69"; (with_reducible refine mVal_s ?_); walk_at "~66")
  refine ⟨y, ds, rfl, hs, fun x ex => ?_, fun hb ps e hg => ?_⟩
  · (walk_at "~53")
    exact qx x ex
  · have hm := good_ascP hg
    have hml := ascP_len ps
    have hpl : ps.length ≤ 100 := by rw [e, List.length_map] at hn; exact hn
    (walk_at "@f686d"; walk_at "~9")
    refine ⟨l, ascP ps, rfl, hgl, hm, by omega, ?_⟩
    (walk_at "@f686d"; walk_at "~52")
    refine fun y1 => init_any (.inl rfl) (fun p hp => ?_) (by have := List.length_filter_le (fun p => decide (p ∈ ascP ps)) l; omega) fun w hw => ?_
    · exact hgl p (List.mem_filter.mp hp).1
    · (walk_at "~54")
      exact q hb w hw) only [bxI])
theorem d_Captures_sub {K : PySem.W.Frag} {a : Ad} : ∀ as Qd Xd, as.length = 2 → (opX a) as Qd Xd → td_Captures_sub K a (fnXc as Xd) (fnEnds as Qd) (as ++ List.replicate (2 - 2) .un) := bxU (by simp (disch := with_unfolding_all
  rintro as Qd Xd hl ⟨l, y, ds, rfl, hgl, hll, hs, hn, qx, q⟩
  show td_Captures_sub K a _ (fnEnds _ Qd) [.fz (capD a l), .fz y]
  unfold td_Captures_sub
  (walk_at "~68"; (with_reducible refine dCall_s ?_); walk_at "~69"; (with_reducible refine mVal_s ?_); walk_at "~66")
  refine ⟨y, ds, rfl, hs, fun x ex => ?_, fun hb ps e hg => ?_⟩
  · (walk_at "~53")
    exact qx x ex
  · have hm := good_ascP hg
    have hml := ascP_len ps
    have hpl : ps.length ≤ 100 := by rw [e, List.length_map] at hn; exact hn
    (walk_at "@f686d"; walk_at "~9")
    refine ⟨l, ascP ps, rfl, hgl, hm, by omega, ?_⟩
    (walk_at "@f686d"; walk_at "~52")
    refine fun y1 => init_any (.inl rfl) (fun p hp => ?_) (by have := List.length_filter_le (fun p => !decide (p ∈ ascP ps)) l; omega) fun w hw => ?_
    · exact hgl p (List.mem_filter.mp hp).1
    · (walk_at "~54")
      exact q hb w hw) only [bxI])
theorem d_Captures_rsub {K : PySem.W.Frag} {a : Ad} : ∀ as Qd Xd, as.length = 2 → (opX a) as Qd Xd → td_Captures_rsub K a (fnXc as Xd) (fnEnds as Qd) (as ++ List.replicate (2 - 2) .un) := bxU (by simp (disch := with_unfolding_all
  rintro as Qd Xd hl ⟨l, y, ds, rfl, hgl, hll, hs, hn, qx, q⟩
  show td_Captures_rsub K a _ (fnEnds _ Qd) [.fz (capD a l), .fz y]
  unfold td_Captures_rsub
  (walk_at "~68"; (with_reducible refine dCall_s ?_; refine mVal_s ?_); walk_at "~66")
  refine ⟨y, ds, rfl, hs, fun x ex => ?_, fun hb ps e hg => ?_⟩
  · (walk_at "~53")
    exact qx x ex
  · have hm := good_ascP hg
    have hml := ascP_len ps
    have hpl : ps.length ≤ 100 := by rw [e, List.length_map] at hn; exact hn
    (walk_at "@f686d"; walk_at "~69"; walk_at "~9")
    refine ⟨ascP ps, l, rfl, hm, hgl, by omega, ?_⟩
    (walk_at "@f686d"; walk_at "~52")
    refine fun y1 => init_any (.inl rfl) (fun p hp => ?_) (by have := List.length_filter_le (fun p => !decide (p ∈ l)) (ascP ps); omega) fun w hw => ?_
    · exact hm p (List.mem_filter.mp hp).1
    · (walk_at "~54")
      exact q hb w hw) only [bxI])
theorem d_Captures_xor {K : PySem.W.Frag} {a : Ad} : ∀ as Qd Xd, as.length = 2 → (opX a) as Qd Xd → td_Captures_xor K a (fnXc as Xd) (fnEnds as Qd) (as ++ List.replicate (3 - 2) .un) := bxU (by simp (disch := with_unfolding_all
  rintro as Qd Xd hl ⟨l, y, ds, rfl, hgl, hll, hs, hn, qx, q⟩
  show td_Captures_xor K a _ (fnEnds _ Qd) [.fz (capD a l), .fz y, .un]
  unfold td_Captures_xor
  (walk_at "~14"; walk_at "~66")
  refine ⟨y, ds, rfl, hs, fun x ex => ?_, fun hb ps e hg => ?_⟩
  · (walk_at "~53")
    exact qx x ex
  · have hm := good_ascP hg
    have hml := ascP_len ps
    have hpl : ps.length ≤ 100 := by rw [e, List.length_map] at hn; exact hn
    (walk_at "~34"; walk_at "~68"; walk_at "~79"; walk_at "~69"; walk_at "~10"; walk_at "~9")
    refine ⟨l, ascP ps, rfl, hgl, hm, by omega, ?_⟩
    (walk_at "@f686d"; walk_at "~29"; walk_at "~69"; walk_at "~9")
    refine ⟨ascP ps, l, rfl, hm, hgl, by omega, ?_⟩
    have f1 := List.length_filter_le (fun p => !decide (p ∈ ascP ps)) l
    have f2 := List.length_filter_le (fun p => !decide (p ∈ l)) (ascP ps)
    (walk_at "@f686d")
    refine addL_s (by simp only [List.length_map]; omega) ?_
    rw [← List.map_append]
    (walk_at "~52")
    refine fun y1 => init_any (.inl rfl) (fun p hp => ?_) (by rw [List.length_append]; omega) fun w hw => ?_
    · rcases List.mem_append.mp hp with h | h
      · exact hgl p (List.mem_filter.mp h).1
      · exact hm p (List.mem_filter.mp h).1
    · (walk_at "~54")
      exact q hb w hw) only [bxI])
theorem d_Captures_rxor {K : PySem.W.Frag} {a : Ad} : ∀ as Qd Xd, as.length = 2 → (opX a) as Qd Xd → td_Captures_rxor K a (fnXc as Xd) (fnEnds as Qd) (as ++ List.replicate (3 - 2) .un) := bxU (by simp (disch := with_unfolding_all
  rintro as Qd Xd hl ⟨l, y, ds, rfl, hgl, hll, hs, hn, qx, q⟩
  show td_Captures_rxor K a _ (fnEnds _ Qd) [.fz (capD a l), .fz y, .un]
  unfold td_Captures_rxor
  (walk_at "~14"; walk_at "~66")
  refine ⟨y, ds, rfl, hs, fun x ex => ?_, fun hb ps e hg => ?_⟩
  · (walk_at "~53")
    exact qx x ex
  · have hm := good_ascP hg
    have hml := ascP_len ps
    have hpl : ps.length ≤ 100 := by rw [e, List.length_map] at hn; exact hn
    (walk_at "~34"; walk_at "~68"; walk_at "~79"; walk_at "~69"; walk_at "~10"; walk_at "~9")
    refine ⟨l, ascP ps, rfl, hgl, hm, by omega, ?_⟩
    (walk_at "@f686d"; walk_at "~29"; walk_at "~69"; walk_at "~9")
    refine ⟨ascP ps, l, rfl, hm, hgl, by omega, ?_⟩
    have f1 := List.length_filter_le (fun p => !decide (p ∈ ascP ps)) l
    have f2 := List.length_filter_le (fun p => !decide (p ∈ l)) (ascP ps)
    (walk_at "@f686d")
    refine addL_s (by simp only [List.length_map]; omega) ?_
    rw [← List.map_append]
    (walk_at "~52")
    refine fun y1 => init_any (.inl rfl) (fun p hp => ?_) (by rw [List.length_append]; omega) fun w hw => ?_
    · rcases List.mem_append.mp hp with h | h
      · exact hgl p (List.mem_filter.mp h).1
      · exact hm p (List.mem_filter.mp h).1
    · (walk_at "~54")
      exact q hb w hw) only [bxI])
open PySem L2 DL
local macro_rules | `(tactic| walk_at "@6e437") => `(tactic| ((with_reducible refine' lenQ_s ?e0 ?_); (case e0 => exact rfl)))
local macro_rules | `(tactic| walk_at "@65346") => `(tactic| ((with_reducible refine' opI_s ?e0 ?_); (case e0 => walk_at "da")))
local macro_rules | `(tactic| walk_at "@79cef") => `(tactic| ((with_reducible refine' eqF_s ?e0 ?_); (case e0 => exact rfl)))
local macro_rules | `(tactic| walk_at "@b9a69") => `(tactic| ((with_reducible refine' mSlot_s ?e0 ?e1 ?_); (case e0 => exact rfl); (case e1 => trivial)))
local macro_rules | `(tactic| walk_at "@3993f") => `(tactic| ((with_reducible refine' splK2_s ?e0 ?e1 ?_); (case e0 => decide); (case e1 => decide)))
local macro_rules | `(tactic| walk_at "@16cb3") => `(tactic| ((with_reducible refine' addS_s ?e0 ?_); (case e0 => walk_at "da")))
local macro_rules | `(tactic| walk_at "@17667") => `(tactic| ((with_reducible refine' fnRo_s ?e0 ?e1 ?_); (case e0 => walk_at "db"); (case e1 => walk_at "dn")))
local macro_rules | `(tactic| walk_at "@65e50") => `(tactic| ((with_reducible refine' dIxV_s ?e0 ?_); (case e0 => exact rfl)))
local macro_rules | `(tactic| walk_at "@0654e") => `(tactic| ((with_reducible refine' ixVK_s ?e0 ?e1 ?_); (case e0 => exact rfl); (case e1 => exact rfl)))
local macro_rules | `(tactic| walk_at "@591ea") => `(tactic| ((with_reducible refine' lPutK_s ?e0 ?_); (case e0 => exact rfl)))
local macro_rules | `(tactic| walk_at "@34fcb") => `(tactic| ((with_reducible refine' lPutK2_s ?e0 ?e1 ?e2 ?_); (case e0 => exact rfl); (case e1 => exact rfl); (case e2 => walk_at "dn")))
local macro_rules | `(tactic| walk_at "@e700a") => `(tactic| ((with_reducible refine' sLAug_s ?e0 ?e1 ?e2 ?_); (case e0 => exact rfl); (case e1 => decide); (case e2 => exact rfl)))
local macro_rules | `(tactic| walk_at "@868f5") => `(tactic| ((with_reducible refine' lAugK_s ?e0 ?e1 ?e2 ?_); (case e0 => exact rfl); (case e1 => exact rfl); (case e2 => walk_at "dn")))
theorem cdivT {i m : Int} (h : 0 < m) (h2 : m ≤ 10 ^ 60) : CDivW i m := by
  refine ⟨h, ?_⟩
  have h3 : m.natAbs < 2 ^ 200 := by
    have e : ((m.natAbs : Nat) : Int) = m := Int.natAbs_of_nonneg (Int.le_of_lt h)
    have h5 : ((m.natAbs : Nat) : Int) < ((2 ^ 200 : Nat) : Int) := by
      rw [e]
      exact Int.lt_of_le_of_lt h2 (by decide)
    exact Int.ofNat_lt.mp h5
  have h6 : m.natAbs.log2 < 200 := (Nat.log2_lt (by omega)).mpr h3
  omega
theorem modT {i m : Int} (h : 0 < m) : 0 ≤ i % m ∧ i % m < m := bxU (by simp (disch := with_unfolding_all
  exact ⟨Int.emod_nonneg _ (by omega), Int.emod_lt_of_pos _ h⟩) only [bxI])
theorem d_law_tape {K : PySem.W.Frag} {a : Ad} : ∀ as Qd, as.length = 2 → (S_law_tape K a) as Qd → td_law_tape K a (fnEndsO as Qd) (as ++ List.replicate (3 - 2) .un) := bxU (by simp (disch := with_unfolding_all
  rintro as Qd hl ⟨ns, k, rfl, hk, hk2, q⟩
  show td_law_tape K a (fnEndsO _ Qd) [.fz (.scr ns), .fz (.int k), .un]
  have fin : ∀ c : Int, sRetL K (aCons (dVar 2) (aCons (dC (.int 0)) (aCons (dCB fInt (aCons (dChain cLe cLt (dC (.int 0)) (dVar 2) (dPow (dC (.int 10)) (dC (.int 18)))) aNil)) (aCons (dVar 1) aNil)))) (fnEndsO [.fz (.scr ns), .fz (.int k)] Qd) [.fz (.scr ns), .fz (.int k), .fz (.int c)] := by
    intro c
    ((with_reducible refine sRetL_s ?_); walk_at "~38"; walk_at "~2"; (with_reducible refine aCons_s ?_); walk_at "~5"; (with_reducible refine dChain_s ?_; refine dC_s ?_); walk_at "@a3227"; (with_reducible refine chK_s ?_))
    refine ite_s (fun hc => ?_) (fun hc => ?_)
    · ((with_reducible refine dPow_s ?_; refine dOp_s ?_; refine dC_s ?_); walk_at "~75"; (with_reducible refine chK2_s ?_; refine aNil_s ?_; refine cbIntB_s ?_); walk_at "~38"; walk_at "~7")
      intro p
      (walk_at "@17667")
      refine q _ _ ⟨c, 0, _, k, rfl, ?_, by decide, by decide, hk, hk2⟩
      have h0 : 0 ≤ c := by simpa [cLe] using hc
      by_cases h1 : c < 10 ^ 18
      · right
        refine ⟨?_, h0, h1⟩
        show (if cLt c (10 ^ (18 : Int).toNat) = true then (1 : Int) else 0) = 1
        rw [if_pos]
        simpa [cLt] using h1
      · left
        show (if cLt c (10 ^ (18 : Int).toNat) = true then (1 : Int) else 0) = 0
        rw [if_neg]
        simpa [cLt] using h1
    · ((with_reducible refine aNil_s ?_; refine cbIntB_s ?_); walk_at "~38"; walk_at "~7")
      intro p
      (walk_at "@17667")
      exact q _ _ ⟨c, 0, _, k, rfl, .inl rfl, by decide, by decide, hk, hk2⟩
  unfold td_law_tape
  (walk_at "~14"; (with_reducible refine dC_s ?_); walk_at "@d4417"; walk_at "~1"; (with_reducible refine dBv_s ?_; refine dCmp_s ?_; refine dOp_s ?_); walk_at "@a3227"; walk_at "~21"; (with_reducible refine lenR_s ?_; refine opI0_s ?_; refine bvK_s ?_))
  refine ite_s (fun hc => ?_) (fun hc => ?_)
  · ((with_reducible refine sSet_s ?_); walk_at "~5"; (with_reducible refine dIxR_s ?_; refine dOp_s ?_); walk_at "~45")
    have h1 : k < ns.length := by simpa [cLt] using hc
    have h2 : k.toNat < ns.length := by omega
    refine opK_s (z := .int ns[k.toNat]) ⟨ns, k, ns[k.toNat], rfl, rfl, ?_, rfl⟩ ?_
    · unfold atI ixN
      simp [hk, h1, h2]
    · refine aNil_s ?_
      refine cbInt_s ?_
      refine setK_s rfl rfl ?_
      exact fin _
  · refine sNext_s ?_
    exact fin 0) only [bxI])
theorem prime_at {j : Int} (h0 : 0 ≤ j) (h1 : j < 5) : ∃ p : Int, ixD (.lst [.int 2147483647, .int 2147483629, .int 2147483587, .int 2147483579, .int 2147483563]) (.int j) = some (.int p) ∧ 0 < p := bxU (by simp (disch := with_unfolding_all
  have h : j = 0 ∨ j = 1 ∨ j = 2 ∨ j = 3 ∨ j = 4 := by omega
  rcases h with rfl | rfl | rfl | rfl | rfl <;> exact ⟨_, rfl, by decide⟩) only [bxI])
theorem d_law_draw {K : PySem.W.Frag} {a : Ad} : ∀ as Qd, as.length = 2 → (S_law_draw K a) as Qd → td_law_draw K a (fnEnds as Qd) (as ++ List.replicate (6 - 2) .un) := bxU (by simp (disch := with_unfolding_all
  rintro as Qd hl ⟨v, s, b, m, rfl, ⟨c, n, f, k, rfl, hf, hn, hnb, hk, hk2⟩, hb, hm, hm2, q⟩
  show td_law_draw K a (fnEnds _ Qd) [.ow v (lstA K (nf a) [.int c, .int n, .int f, .int k]), .fz (.int m), .un, .un, .un, .un]
  unfold td_law_draw
  ((with_reducible refine sSeq_s ?_); walk_at "@e700a"; (with_reducible refine dC_s ?_); walk_at "@868f5"; walk_at "~13"; walk_at "~76"; walk_at "@0654e"; walk_at "~77")
  refine ite_s (fun hc => ?_) (fun hc => ?_)
  · (walk_at "~14"; (with_reducible refine dMod_s ?_; refine dOp_s ?_); walk_at "~5"; walk_at "~76"; walk_at "@0654e"; (with_reducible refine aNil_s ?_; refine cbInt_s ?_); walk_at "@a3227"; walk_at "@65346"; walk_at "@d4417"; (with_reducible refine sSeq_s ?_; refine sLPut_s ?_; refine dDiv_s ?_; refine dOp_s ?_); walk_at "~5"; walk_at "~76"; walk_at "@0654e"; (with_reducible refine aNil_s ?_; refine cbInt_s ?_); walk_at "@a3227")
    refine opI_s (cdivT hm hm2) ?_
    (walk_at "@591ea"; (with_reducible refine dC_s ?_); walk_at "@34fcb"; walk_at "~70"; walk_at "@17e17")
    have hf0 : f = 0 := by simpa using hc
    exact q _ _ ⟨_, _, f, k, rfl, .inl hf0, by omega, by omega, hk, hk2⟩ (modT hm).1 (modT hm).2
  · have hf1 : f = 1 ∧ 0 ≤ c ∧ c < 10 ^ 18 := by
      rcases hf with h | h
      · exact absurd h (by simpa using hc)
      · exact h
    ((with_reducible refine sNext_s ?_); walk_at "~14"; (with_reducible refine dF_s ?_; refine dLst_s ?_); walk_at "~2"; walk_at "~2"; walk_at "~2"; walk_at "~2"; walk_at "~64"; (with_reducible refine dMod_s ?_; refine dOp_s ?_); walk_at "~5"; walk_at "~76"; walk_at "@0654e"; (with_reducible refine aNil_s ?_; refine cbInt_s ?_); walk_at "~75")
    obtain ⟨p, ep, hp⟩ := prime_at (modT (i := n + 1) (m := 5) (by decide)).1 (modT (i := n + 1) (m := 5) (by decide)).2
    refine fK_s ep ?_
    (walk_at "~72"; (with_reducible refine dF_s ?_); walk_at "~76"; walk_at "@0654e"; (with_reducible refine dMul_s ?_; refine dOp_s ?_); walk_at "~76"; walk_at "@0654e"; walk_at "~75"; (with_reducible refine addI_s ?_); walk_at "~72"; (with_reducible refine dMod_s ?_; refine dOp_s ?_); walk_at "~5"; (with_reducible refine dPow_s ?_; refine dOp_s ?_); walk_at "~44"; walk_at "@a3227"; (with_reducible refine dMul_s ?_; refine dOp_s ?_); walk_at "~76"; walk_at "@0654e"; walk_at "~75"; (with_reducible refine addI_s ?_; refine dC_s ?_; refine addI_s ?_); walk_at "~75"; (with_reducible refine aNil_s ?_; refine cbInt_s ?_); walk_at "@a3227"; walk_at "@65346"; walk_at "@d4417"; (with_reducible refine sRet_s ?_; refine dMod_s ?_; refine dOp_s ?_); walk_at "~5"; (with_reducible refine dDiv_s ?_; refine dOp_s ?_); walk_at "~6"; walk_at "@65346"; (with_reducible refine aNil_s ?_; refine cbInt_s ?_); walk_at "@a3227"; walk_at "@65346"; walk_at "@17e17")
    exact q _ _ ⟨_, _, f, k, rfl, .inr hf1, by omega, by omega, hk, hk2⟩ (modT hm).1 (modT hm).2) only [bxI])
theorem Tp.mono {K : PySem.W.Frag} {a : Ad} {v : V} {b b' : Int} {s : SD (nf a)} (h : Tp K a v b s) (hb : b ≤ b') : Tp K a v b' s := bxU (by simp (disch := with_unfolding_all
  obtain ⟨c, n, f, k, e, h1, h2, h3, h4⟩ := h
  exact ⟨c, n, f, k, e, h1, h2, by omega, h4⟩) only [bxI])
theorem Tp.is {K : PySem.W.Frag} {a : Ad} {v : V} {b : Int} {s : SD (nf a)} (h : Tp K a v b s) : ∃ A, s = .ow v A := bxU (by simp (disch := with_unfolding_all
  obtain ⟨c, n, f, k, e, _⟩ := h
  exact ⟨_, e⟩) only [bxI])
def keptText : Str := "name flag slot func open own look bind call keep take shift run drop "
def keptText2 : Str := "apart when held fail guard else after end with of on off"
theorem kept_split : Txt.split (keptText ++ keptText2) " " = keptWords := by decide +kernel
theorem d_law_kept {K : PySem.W.Frag} {a : Ad} : ∀ as Qd, as.length = 0 → (S_law_kept a) as Qd → td_law_kept K a (fnEnds as Qd) (as ++ List.replicate (1 - 0) .un) := bxU (by simp (disch := with_unfolding_all
  rintro as Qd hl ⟨rfl, q⟩
  show td_law_kept K a (fnEnds _ Qd) [.un]
  unfold td_law_kept
  (walk_at "~14"; (with_reducible refine dC_s ?_); walk_at "@d4417"; (with_reducible refine sRet_s ?_; refine dSplit_s ?_); walk_at "~55"; walk_at "@16cb3"; (with_reducible refine splK_s ?_; refine dC_s ?_); walk_at "@3993f"; walk_at "@17e17")
  rw [show Txt.split (Str.ofString "name flag slot func open own look bind call keep take shift run drop " ++ Str.ofString "apart when held fail guard else after end with of on off") (Str.ofString " ") = keptWords from kept_split]
  exact q) only [bxI])
theorem d_law_signs {K : PySem.W.Frag} {a : Ad} : ∀ as Qd, as.length = 0 → (S_law_signs a) as Qd → td_law_signs K a (fnEnds as Qd) (as ++ List.replicate (0 - 0) .un) := bxU (by simp (disch := with_unfolding_all
  rintro as Qd hl ⟨rfl, q⟩
  show td_law_signs K a (fnEnds _ Qd) []
  unfold td_law_signs
  (walk_at "~28")
  exact q) only [bxI])
theorem d_law_number {K : PySem.W.Frag} {a : Ad} : ∀ as Qd, as.length = 1 → (S_law_number K a) as Qd → td_law_number K a (fnEnds as Qd) (as ++ List.replicate (1 - 1) .un) := bxU (by simp (disch := with_unfolding_all
  rintro as Qd hl ⟨v, s, b, rfl, hT, hb, q⟩
  obtain ⟨A, rfl⟩ := hT.is
  show td_law_number K a (fnEnds _ Qd) [.ow v A]
  unfold td_law_number
  (walk_at "~13"; walk_at "~42")
  refine ⟨v, _, b, 3, rfl, hT, by omega, by decide, by decide, fun s' d hT1 hd0 hd1 => ?_⟩
  obtain ⟨A1, rfl⟩ := hT1.is
  (walk_at "@f686d"; walk_at "~77")
  refine ite_s (fun hc => ?_) (fun hc => ?_)
  · ((with_reducible refine sRet_s ?_); walk_at "~18"; (with_reducible refine mVal_s ?_; refine dPow_s ?_; refine dOp_s ?_; refine dC_s ?_); walk_at "~75"; walk_at "~9")
    refine ⟨v, _, b + 1, 10 ^ 60, rfl, hT1, by omega, by decide, by decide, fun s' d hT2 hd0 hd1 => ?_⟩
    obtain ⟨A2, rfl⟩ := hT2.is
    (walk_at "@f686d"; walk_at "@17e17")
    exact q _ _ (hT2.mono (by omega)) hd0 hd1
  · ((with_reducible refine sNext_s ?_; refine sRet_s ?_); walk_at "~42")
    refine ⟨v, _, b + 1, 13, rfl, hT1, by omega, by decide, by decide, fun s' d hT2 hd0 hd1 => ?_⟩
    obtain ⟨A2, rfl⟩ := hT2.is
    (walk_at "@f686d"; walk_at "@17e17")
    exact q _ _ (hT2.mono (by omega)) hd0 (Int.lt_trans hd1 (by decide))) only [bxI])
open PySem L2 DL
open DS (Pr ltM)
local macro_rules | `(tactic| walk_at "@21c0b") => `(tactic| ((with_reducible refine' slSK_s ?e0 ?_); (case e0 => walk_at "da")))
local macro_rules | `(tactic| walk_at "@ad53f") => `(tactic| ((with_reducible refine' ir1K_s ?e0 ?_); (case e0 => walk_at "da")))
abbrev cl (s : Str) : List Nat := s.cps.toList
theorem cl_app (x y : Str) : cl (x ++ y) = cl x ++ cl y := bxU (by simp (disch := with_unfolding_all
  show (x ++ y).cps.toList = _
  rw [Str.cps_append, Array.toList_append]) only [bxI])
theorem cl_len (x : Str) : x.length = (cl x).length := by simp [cl, Str.length]
def lts : List Nat := letters.cps.toList
def dgs : List Nat := digits.cps.toList
theorem lts_len : lts.length = 26 := by decide +kernel
theorem dgs_len : dgs.length = 10 := by decide +kernel
/-- a word in the making: r signs may still come -/
def Bs (b : Str) (r : Nat) : Prop := ∃ c t, cl b = c :: t ∧ c ∈ lts ∧ (∀ x ∈ t, x ∈ lts ∨ x ∈ dgs) ∧ t.length + r ≤ 11
theorem Bs.grow {b : Str} {r : Nat} (h : Bs b (r + 1)) {c : Nat} (hc : c ∈ lts ∨ c ∈ dgs) : Bs (b ++ ⟨#[c]⟩) r := bxU (by simp (disch := with_unfolding_all
  obtain ⟨c0, t, e, h1, h2, h3⟩ := h
  refine ⟨c0, t ++ [c], by rw [cl_app, e]; rfl, h1, fun x hx => ?_, by rw [List.length_append]; show t.length + 1 + r ≤ 11; omega⟩
  rcases List.mem_append.mp hx with m | m
  · exact h2 x m
  · rw [List.mem_singleton.mp m]; exact hc) only [bxI])
theorem Bs.word {b : Str} {r : Nat} (h : Bs b r) : isWordB b = true ∧ b.length ≤ 12 := bxU (by simp (disch := with_unfolding_all
  obtain ⟨c0, t, e, h1, h2, h3⟩ := h
  have hl : b.length = t.length + 1 := by rw [cl_len, e]; rfl
  refine ⟨?_, by omega⟩
  have ha : (cl b).all (fun c => decide (c ∈ letters.cps.toList) || decide (c ∈ digits.cps.toList)) = true := by
    rw [e, List.all_eq_true]
    intro x hx
    rw [Bool.or_eq_true, decide_eq_true_eq, decide_eq_true_eq]
    rcases List.mem_cons.mp hx with m | m
    · subst m; exact .inl h1
    · exact h2 x m
  unfold isWordB
  rw [show decide (1 ≤ b.length) = true from decide_eq_true (by omega), show decide (b.length ≤ 12) = true from decide_eq_true (by omega)]
  exact ha) only [bxI])
theorem Bs.len {b : Str} {r : Nat} (h : Bs b r) : b.length ≤ 12 := h.word.2
theorem Bs.head {b : Str} {r : Nat} (h : Bs b r) : headB b = true := bxU (by simp (disch := with_unfolding_all
  obtain ⟨c0, t, e, h1, h2, h3⟩ := h
  unfold headB
  rw [show b.cps.toList = c0 :: t from e]
  exact decide_eq_true h1) only [bxI])
theorem Bs.of {b : Str} (h1 : isWordB b = true) (h2 : headB b = true) : Bs b 0 := bxU (by simp (disch := with_unfolding_all
  unfold headB at h2
  unfold isWordB at h1
  simp only [Bool.and_eq_true, decide_eq_true_eq] at h1
  cases e : b.cps.toList with
  | nil => rw [e] at h2; cases h2
  | cons c t =>
    rw [e] at h2 h1
    have hl : b.length = t.length + 1 := by rw [cl_len, show cl b = c :: t from e]; rfl
    refine ⟨c, t, e, of_decide_eq_true h2, fun x hx => ?_, by omega⟩
    have := List.all_eq_true.mp h1.2 x (List.mem_cons_of_mem _ hx)
    rw [Bool.or_eq_true, decide_eq_true_eq, decide_eq_true_eq] at this
    exact this) only [bxI])
theorem inV_strs (z : Str) : ∀ ss : List Str, inV (.str z) (ss.map V.str) = decide (z ∈ ss)
  | [] => by simp [inV]
  | s :: ss => by
    have ih := inV_strs z ss
    unfold inV at ih ⊢
    rw [List.map_cons, List.any_cons, ih]
    show ((s == z) || decide (z ∈ ss)) = decide (z ∈ s :: ss)
    by_cases h : s = z
    · subst h; simp
    · have h' : ¬ z = s := fun e => h e.symm
      simp [h, h']
def keptL : List Str := ["name", "flag", "slot", "func", "open", "own", "look", "bind", "call", "keep", "take", "shift", "run", "drop", "apart", "when", "held", "fail", "guard", "else", "after", "end", "with", "of", "on", "off"]
theorem keptV_eq : keptV = keptL.map V.str := rfl
theorem kept_sub : ∀ w ∈ keptL, w ∈ keptWords := by decide +kernel
theorem Bs.ident {b : Str} {r : Nat} (h : Bs b r) (hk : b ∉ keptWords) : isIdB b = true := bxU (by simp (disch := with_unfolding_all
  unfold isIdB
  rw [h.word.1, h.head, keptV_eq, inV_strs]
  have : b ∉ keptL := fun m => hk (kept_sub b m)
  simp [this]) only [bxI])
theorem kept_nodig : ∀ w ∈ keptWords, ∀ c ∈ cl w, c ∉ dgs := by decide +kernel
theorem kept_bs : ∀ w ∈ keptWords, (match cl w with | c :: t => decide (c ∈ lts) && t.all (fun x => decide (x ∈ lts)) && decide (t.length ≤ 4) | [] => false) = true := by decide +kernel
theorem kept_w {w : Str} (h : w ∈ keptWords) : Bs w 7 := bxU (by simp (disch := with_unfolding_all
  have := kept_bs w h
  cases e : cl w with
  | nil => rw [e] at this; cases this
  | cons c t =>
    rw [e] at this
    simp only [Bool.and_eq_true, decide_eq_true_eq, List.all_eq_true] at this
    exact ⟨c, t, e, this.1.1, fun x hx => .inl (this.1.2 x hx), by have := this.2; omega⟩) only [bxI])
theorem cut9 {b : Str} {r : Nat} (h : Bs b r) : ∃ c t, cl (cutS b none (some 9)) = c :: t ∧ c ∈ lts ∧ (∀ x ∈ t, x ∈ lts ∨ x ∈ dgs) ∧ t.length ≤ 8 := bxU (by simp (disch := with_unfolding_all
  obtain ⟨c0, t, e, h1, h2, h3⟩ := h
  have hl : b.length = t.length + 1 := by rw [cl_len, e]; rfl
  have e9 : HT.sIx b.length b.length (some 9) = min 9 b.length := by
    unfold HT.sIx
    simp
  have e0 : HT.sIx b.length 0 none = 0 := rfl
  refine ⟨c0, t.take (min 9 b.length - 1), ?_, h1, fun x hx => h2 x (List.mem_of_mem_take hx), by rw [List.length_take]; omega⟩
  show (cl (cutS b none (some 9))) = _
  have : cl (cutS b none (some 9)) = ((cl b).drop 0).take (min 9 b.length - 0) := by
    unfold cutS
    rw [e9, e0]
  rw [this, e, List.drop_zero, Nat.sub_zero]
  obtain ⟨k, hk⟩ : ∃ k, min 9 b.length = k + 1 := ⟨min 9 b.length - 1, by omega⟩
  rw [hk]
  rfl) only [bxI])
theorem cut_len (b : Str) : (cutS b none (some 9)).length ≤ b.length := bxU (by simp (disch := with_unfolding_all
  rw [cl_len, cl_len]
  unfold cutS
  simp only [cl]
  rw [List.length_take, List.length_drop]
  omega) only [bxI])
theorem digs_ok : ∀ i < 64, (∀ c ∈ cl (Str.ofString (toString ((i : Nat) : Int))), c ∈ dgs) ∧ (Str.ofString (toString ((i : Nat) : Int))).length ≤ 2 ∧ 1 ≤ (Str.ofString (toString ((i : Nat) : Int))).length := by decide +kernel
theorem tail_bs {b : Str} {r : Nat} (h : Bs b r) {i : Nat} (hi : i < 64) : Bs (cutS b none (some 9) ++ Str.ofString (toString ((i : Nat) : Int))) 0 := bxU (by simp (disch := with_unfolding_all
  obtain ⟨c, u, e, h1, h2, h3⟩ := cut9 h
  obtain ⟨t1, t2, _⟩ := digs_ok i hi
  refine ⟨c, u ++ cl (Str.ofString (toString ((i : Nat) : Int))), by rw [cl_app, e]; rfl, h1, fun x hx => ?_, by rw [List.length_append, ← cl_len]; omega⟩
  rcases List.mem_append.mp hx with m | m
  · exact h2 x m
  · exact .inr (t1 x m)) only [bxI])
theorem tail_kept {p : Str} {i : Nat} (hi : i < 64) : p ++ Str.ofString (toString ((i : Nat) : Int)) ∉ keptWords := fun m => by
  obtain ⟨t1, _, t2⟩ := digs_ok i hi
  have hne : cl (Str.ofString (toString ((i : Nat) : Int))) ≠ [] := fun e => by rw [cl_len, e] at t2; cases t2
  obtain ⟨c, hc⟩ := List.exists_mem_of_ne_nil _ hne
  exact kept_nodig _ m c (by rw [cl_app]; exact List.mem_append_right _ hc) (t1 c hc)
theorem signs_eq : cl signs = lts ++ dgs := by decide +kernel
/-- a drawn sign of the first m -/
theorem sign_at {m d : Int} (h0 : 0 ≤ d) (h1 : d < m) (hm : m ≤ 36) : ∃ c, atI signs.cps.toList d = some c ∧ (c ∈ lts ∨ c ∈ dgs) ∧ (m ≤ 26 → c ∈ lts) := bxU (by simp (disch := with_unfolding_all
  obtain ⟨c, hc, ec, e2⟩ := atI_ex (xs := lts ++ dgs) (k := d) h0 (by rw [List.length_append, lts_len, dgs_len]; omega)
  refine ⟨c, by rw [show signs.cps.toList = lts ++ dgs from signs_eq]; exact ec, List.mem_append.mp hc, fun h => ?_⟩
  rw [List.getElem?_append_left (by rw [lts_len]; omega)] at e2
  exact List.mem_of_getElem? e2) only [bxI])
theorem signs_lt : signs.length ≤ 1000000 := by decide +kernel
theorem d_law_spelled {K : PySem.W.Frag} {a : Ad} : ∀ as Qd, as.length = 2 → (S_law_spelled K a) as Qd → td_law_spelled K a (fnEnds as Qd) (as ++ List.replicate (6 - 2) .un) := by
  rintro as Qd hl ⟨v, s, b, rfl, hT, hb, q⟩
  obtain ⟨A, rfl⟩ := hT.is
  show td_law_spelled K a (fnEnds _ Qd) [.ow v A, .fz (.lst []), .un, .un, .un, .un]
  unfold td_law_spelled
  (walk_at "~14"; walk_at "~42")
  refine ⟨v, _, b, 5, rfl, hT, by omega, by decide, by decide, fun s1 d1 hT1 hd10 hd11 => ?_⟩
  obtain ⟨A1, rfl⟩ := hT1.is
  (walk_at "~34"; walk_at "~14"; (with_reducible refine dF_s ?_; refine dC_s ?_); walk_at "~42")
  refine ⟨v, _, b + 1, 12, rfl, hT1, by omega, by decide, by decide, fun s2 d2 hT2 hd20 hd21 => ?_⟩
  obtain ⟨A2, rfl⟩ := hT2.is
  (walk_at "@f686d"; (with_reducible refine addI_s ?_); walk_at "@d4417")
  have hT2' := hT2.mono (b' := b + 2) (by omega)
  with_reducible refine seqC_id ?_
  refine cutC_s (fun env => ∃ z : Int, 1 ≤ z ∧ z ≤ 12 ∧ env = [.ow v A2, .fz (.lst []), .fz (.int d1), .fz (.int z), .un, .un]) (fun R hR => ?_) ?_
  · ((with_reducible refine sIf_s ?_); walk_at "~3"; walk_at "~11"; (with_reducible refine bvK_s ?_))
    refine ite_s (fun h0 => ?_) (fun h0 => ?_)
    · ((with_reducible refine sSet_s ?_; refine dC_s ?_); walk_at "@d4417")
      exact hR _ ⟨1, by decide, by decide, rfl⟩
    · ((with_reducible refine sNext_s ?_))
      exact hR _ ⟨_, by omega, by omega, rfl⟩
  rintro _ ⟨z, hz1, hz2, rfl⟩
  (walk_at "~15"; (with_reducible refine bvK_s ?_))
  refine ite_s (fun h1 => ?_) (fun h1 => ?_)
  · ((with_reducible refine sRet_s ?_); walk_at "~44"; (with_reducible refine dCall_s ?_); walk_at "~9")
    refine ⟨rfl, ?_⟩
    (walk_at "@f686d"; walk_at "~42")
    refine ⟨v, _, b + 2, 26, rfl, hT2', by omega, by decide, by decide, fun s3 d3 hT3 hd30 hd31 => ?_⟩
    obtain ⟨A3, rfl⟩ := hT3.is
    (walk_at "@f686d")
    obtain ⟨w, hw, ew, _⟩ := atI_ex (xs := keptWords) (k := d3) hd30 hd31
    refine ixL_s (atI_map (f := D.str) ew) ?_
    (walk_at "~79"; walk_at "~9")
    refine ⟨rfl, ?_⟩
    (walk_at "@f686d"; walk_at "~42")
    refine ⟨v, _, b + 3, 36, rfl, hT3.mono (by omega), by omega, by decide, by decide, fun s4 d4 hT4 hd40 hd41 => ?_⟩
    obtain ⟨A4, rfl⟩ := hT4.is
    obtain ⟨c, ec, hc, _⟩ := sign_at hd40 hd41 (by decide)
    (walk_at "@f686d")
    refine ixS_s (c := c) signs_lt ec ?_
    have hB := (kept_w hw).grow (r := 6) hc
    have := (kept_w hw).len
    refine addS_s (by show w.length + 1 ≤ 1000000; omega) ?_
    (walk_at "@17e17")
    exact q _ _ (hT4.mono (by omega)) hB.word.1 hB.head
  ((with_reducible refine sNext_s ?_))
  with_reducible refine seqC_id ?_
  refine cutC_s (fun env => env = [.ow v A2, .fz (.lst []), .fz (.int d1), .fz (.int z), .un, .un]) (fun R hR => ?_) ?_
  · ((with_reducible refine sIf_s ?_; refine dAnd_s ?_); walk_at "~3"; walk_at "~11"; (with_reducible refine bvK_s ?_))
    refine ite_s (fun h2 => ?_) (fun h2 => ?_)
    · (walk_at "~57"; walk_at "~39")
      refine eqDT_s (p := .list []) (q := .list []) rfl rfl (by decide +kernel) (by decide +kernel) ?_
      (walk_at "~8")
      exact hR _ rfl
    · (walk_at "~59")
      exact hR _ rfl
  rintro _ rfl
  (walk_at "~14"; walk_at "~79"; walk_at "~9")
  refine ⟨rfl, ?_⟩
  (walk_at "@f686d"; walk_at "~42")
  refine ⟨v, _, b + 2, 26, rfl, hT2', by omega, by decide, by decide, fun s3 d3 hT3 hd30 hd31 => ?_⟩
  obtain ⟨A3, rfl⟩ := hT3.is
  obtain ⟨c, ec, _, hc⟩ := sign_at hd30 hd31 (by decide)
  (walk_at "@f686d")
  refine ixS_s (c := c) signs_lt ec ?_
  (walk_at "@d4417"; (with_reducible refine sSeq_s ?_; refine sFor_s ?_; refine iR1_s ?_; refine aCons_s ?_; refine dSub_s ?_; refine dOp_s ?_); walk_at "~6"; (with_reducible refine opI0_s ?_; refine aNil_s ?_); walk_at "@ad53f")
  refine for_inv (fun ds env => ∃ (A : OA (nf a)) (w : Str) (s5 : SD (nf a)), Tp K a v (b + 15 - ds.length) (.ow v A) ∧ ds.length ≤ 11 ∧ Bs w ds.length ∧ env = [.ow v A, .fz (.lst []), .fz (.int d1), .fz (.int z), .fz (.str w), s5]) ?_ ?_ _ _ ⟨A3, _, _, hT3.mono (by simp [rangeD]; omega), by simp [rangeD]; omega, ⟨c, [], rfl, hc (by decide), (fun y hy => by cases hy), by simp [rangeD]; omega⟩, rfl⟩
  · rintro y ys env R ⟨A4, w, s5, hT4, hlen, hbs, rfl⟩ hR
    have hbl := hbs.len
    rw [List.length_cons] at hlen hT4 hbs
    (walk_at "@b5b11"; (with_reducible refine sSet_s ?_; refine dF_s ?_); walk_at "@a3227"; walk_at "~79"; walk_at "~9")
    refine ⟨rfl, ?_⟩
    (walk_at "@f686d"; walk_at "~42")
    refine ⟨v, _, _, 36, rfl, hT4, by omega, by decide, by decide, fun s6 d6 hT6 hd60 hd61 => ?_⟩
    obtain ⟨A6, rfl⟩ := hT6.is
    obtain ⟨c6, ec6, hc6, _⟩ := sign_at hd60 hd61 (by decide)
    (walk_at "@f686d")
    refine ixS_s (c := c6) signs_lt ec6 ?_
    refine addS_s (by show w.length + 1 ≤ 1000000; omega) ?_
    (walk_at "@d4417")
    exact hR _ ⟨A6, _, _, hT6.mono (by omega), by omega, hbs.grow hc6, rfl⟩
  · rintro env ⟨A4, w, s5, hT4, hlen, hbs, rfl⟩
    (walk_at "~70"; walk_at "@17e17")
    exact q _ _ (hT4.mono (by simp)) hbs.word.1 hbs.head
theorem nin_strs {w : Str} {ss : List Str} : inD (.str w) (.lst (ss.map .str)) = some (decide (w ∈ ss)) := bxU (by simp (disch := with_unfolding_all
  show ((flatD (.str w)).bind fun w => (flatDs (ss.map .str)).map fun us => inV w us) = _
  rw [flat_strs]
  exact congrArg some (inV_strs w ss)) only [bxI])
theorem d_law_ident {K : PySem.W.Frag} {a : Ad} : ∀ as Qd, as.length = 2 → (S_law_ident K a) as Qd → td_law_ident K a (fnEnds as Qd) (as ++ List.replicate (4 - 2) .un) := bxU (by simp (disch := with_unfolding_all
  rintro as Qd hl ⟨v, s, b, rfl, hT, hb, q⟩
  obtain ⟨A, rfl⟩ := hT.is
  show td_law_ident K a (fnEnds _ Qd) [.ow v A, .fz (.lst []), .un, .un]
  unfold td_law_ident
  (walk_at "~14"; walk_at "~18"; walk_at "~10"; walk_at "~9")
  refine ⟨v, _, b, rfl, hT, hb, fun s1 z hT1 hz1 hz2 => ?_⟩
  obtain ⟨A1, rfl⟩ := hT1.is
  have hB := Bs.of hz1 hz2
  (walk_at "~34"; walk_at "~62"; (with_reducible refine dBv_s ?_; refine dF_s ?_); walk_at "~45")
  refine ninL_s (b := false) (nin_strs (ss := [])) ?_
  (walk_at "~16"; (with_reducible refine dBv_s ?_; refine dF_s ?_); walk_at "@a3227"; (with_reducible refine dCall_s ?_); walk_at "~9")
  refine ⟨rfl, ?_⟩
  (walk_at "@f686d")
  refine ninL_s nin_strs ?_
  ((with_reducible refine bvK_s ?_))
  refine ite_s (fun h => ?_) (fun h => ?_)
  · (walk_at "~70"; walk_at "@17e17")
    exact q _ _ hT1 (hB.ident (by simpa using h))
  · ((with_reducible refine sNext_s ?_; refine sSeq_s ?_; refine sFor_s ?_; refine iR1_s ?_); walk_at "~32"; walk_at "~21"; (with_reducible refine cbLenL_s ?_; refine dC_s ?_; refine addI_s ?_; refine aNil_s ?_); walk_at "@ad53f")
    have hk : z.length ≤ 12 := hB.len
    show dFor _ _ (rangeD 0 1) _ _
    show dFor _ _ [.int 0] _ _
    ((with_reducible refine forCons_s ?_); walk_at "@b5b11"; (with_reducible refine sIf_s ?_; refine dBv_s ?_); walk_at "~44"; (with_reducible refine dSlS_s ?_); walk_at "@a3227"; (with_reducible refine oNone_s ?_; refine oSome_s ?_; refine dC_s ?_; refine ok'_s ?_); walk_at "@21c0b"; walk_at "~21")
    refine cbStrI_s (by decide) ?_
    have := cut_len z
    have hd := (digs_ok 0 (by decide)).2.1
    refine addS_s (by show (cutS z none (some 9)).length + (Str.ofString (toString ((0 : Nat) : Int))).length ≤ 1000000; omega) ?_
    (walk_at "@a3227")
    refine ninL_s (b := false) (nin_strs (ss := [])) ?_
    (walk_at "~16"; (with_reducible refine sRet_s ?_; refine dF_s ?_; refine dSlS_s ?_); walk_at "@a3227"; (with_reducible refine oNone_s ?_; refine oSome_s ?_; refine dC_s ?_; refine ok'_s ?_); walk_at "@21c0b"; walk_at "~21")
    refine cbStrI_s (by decide) ?_
    refine addS_s (by show (cutS z none (some 9)).length + (Str.ofString (toString ((0 : Nat) : Int))).length ≤ 1000000; omega) ?_
    (walk_at "@17e17")
    exact q _ _ hT1 ((tail_bs hB (i := 0) (by decide)).ident (tail_kept (by decide)))) only [bxI])
open PySem L2 DL
open DS (Pr ltM)
local macro_rules | `(tactic| walk_at "@3f25d") => `(tactic| ((with_reducible refine' setL_s ?e0 ?e1 ?e2 ?_); (case e0 => exact rfl); (case e1 => exact rfl); (case e2 => (intro p; walk_at "dn"))))
local macro_rules | `(tactic| walk_at "@7e406") => `(tactic| ((with_reducible refine' appW_s ?e0 ?_); (case e0 => exact rfl)))
local macro_rules | `(tactic| walk_at "@51e68") => `(tactic| ((with_reducible refine' dVarF_s ?e0 ?e1 ?_); (case e0 => exact rfl); (case e1 => walk_at "dn")))
theorem asc_once {l ps : List Pr} (nd : l.Nodup) (h : ∀ p, p ∈ l ↔ p ∈ ps) : sortP l = ascP ps := bxU (by simp (disch := with_unfolding_all
  rw [sortP_nodup nd]
  exact ascP_ext h) only [bxI])
theorem d_law_ascending {K : PySem.W.Frag} {a : Ad} : ∀ as Qd, as.length = 1 → (S_law_ascending a) as Qd → td_law_ascending K a (fnEnds as Qd) (as ++ List.replicate (3 - 1) .un) := bxU (by simp (disch := with_unfolding_all
  rintro as Qd hl ⟨ps, rfl, hg, hn, q⟩
  show td_law_ascending K a (fnEnds _ Qd) [.fz (.lst (ps.map pairD)), .un, .un]
  unfold td_law_ascending
  ((with_reducible refine sSeq_s ?_; refine sSetL_s ?_; refine aNil_s ?_); walk_at "@3f25d")
  intro p
  ((with_reducible refine sSeq_s ?_; refine sFor_s ?_; refine iL_s ?_); walk_at "@a3227"; (with_reducible refine ilK_s ?_))
  refine for_inv (fun ds env => ∃ (l r : List Pr) (s2 : SD (nf a)), ds = r.map pairD ∧ l.Nodup ∧ (∀ x, x ∈ l ∨ x ∈ r ↔ x ∈ ps) ∧ l.length + r.length ≤ 1000 ∧ env = [.fz (.lst (ps.map pairD)), .ow (.ref p) (lstA K (nf a) (l.map pairD)), s2]) ?_ ?_ _ _ ⟨[], ps, .un, rfl, List.nodup_nil, (fun x => by simp), by simpa using hn, rfl⟩
  · rintro y ys env R ⟨l, r, s2, hds, nd, hm, hlen, rfl⟩ hR
    match r, hds with
    | x :: r, hds =>
      obtain ⟨rfl, rfl⟩ := List.cons.inj hds
      have gx := hg x ((hm x).mp (.inr List.mem_cons_self))
      have gl : ∀ z ∈ l, goodP z := fun z hz => hg z ((hm z).mp (.inl hz))
      rw [List.length_cons] at hlen
      (walk_at "@b5b11"; (with_reducible refine sIf_s ?_; refine dBv_s ?_; refine dInXV_s ?_); walk_at "@a3227")
      refine inXV_s rfl gx.ok (good_ok gl) ?_
      ((with_reducible refine bvK_s ?_))
      refine ite_s (fun h => ?_) (fun h => ?_)
      · (walk_at "@7e406"; walk_at "@a3227")
        refine appK_s rfl (by simp only [List.length_map]; omega) (by walk_at "dn") ?_
        have hx : x ∉ l := by simpa using h
        refine hR _ ⟨l ++ [x], r, _, rfl, ?_, fun z => ?_, by simp; omega, by rw [List.map_append]; rfl⟩
        · rw [List.nodup_append]
          refine ⟨nd, by simp, fun u hu w hw e => ?_⟩
          rw [List.mem_singleton.mp hw] at e
          exact hx (e ▸ hu)
        · rw [← hm z]
          simp only [List.mem_append, List.mem_cons, List.not_mem_nil, or_false]
          constructor
          · rintro ((h | h) | h)
            · exact .inl h
            · exact .inr (.inl h)
            · exact .inr (.inr h)
          · rintro (h | h | h)
            · exact .inl (.inl h)
            · exact .inl (.inr h)
            · exact .inr h
      · ((with_reducible refine sNext_s ?_))
        have hx : x ∈ l := by simpa using h
        refine hR _ ⟨l, r, _, rfl, nd, fun z => ?_, by omega, rfl⟩
        rw [← hm z]
        simp only [List.mem_cons]
        constructor
        · rintro (h | h)
          · exact .inl h
          · exact .inr (.inr h)
        · rintro (h | h | h)
          · exact .inl h
          · subst h; exact .inl hx
          · exact .inr h
  · rintro env ⟨l, r, s2, hds, nd, hm, hlen, rfl⟩
    have hr : r = [] := by cases r with | nil => rfl | cons x r => cases hds
    subst hr
    ((with_reducible refine sRet_s ?_; refine dSortM_s ?_; refine aCons_s ?_); walk_at "@51e68"; (with_reducible refine aNil_s ?_; refine sortMK_s ?_); walk_at "@17e17")
    rw [asc_once nd fun x => by simpa using hm x]
    exact q) only [bxI])
open PySem L2 DL
open DS (Pr ltM)
local macro_rules | `(tactic| walk_at "@3d56a") => `(tactic| ((with_reducible refine' ixT_s ?e0 ?_); (case e0 => exact rfl)))
local macro_rules | `(tactic| walk_at "@292fc") => `(tactic| ((with_reducible refine' addS_s ?e0 ?_); (case e0 => (simp only [s_lapp]; omega))))
theorem plD_bl {b : Bool} {n : Nat} : plD n (.bl b) := ⟨.bool b, rfl, by simp only [PyData.canLay0], by simp [PyData.depth]⟩
theorem strOk_cl {s : Str} (h : ∀ c ∈ cl s, c < 1114112) : PyData.strOk s = true := bxU (by simp (disch := with_unfolding_all
  unfold PyData.strOk
  rw [Array.all_eq_true_iff_forall_mem]
  intro c hc
  simpa using h c (by simpa using hc)) only [bxI])
theorem cl_ok {s : Str} (h : PyData.strOk s = true) : ∀ c ∈ cl s, c < 1114112 := bxU (by simp (disch := with_unfolding_all
  unfold PyData.strOk at h
  rw [Array.all_eq_true_iff_forall_mem] at h
  intro c hc
  simpa using h c (by simpa using hc)) only [bxI])
theorem cut_sub (b : Str) (l u : Option Int) : ∀ c ∈ cl (cutS b l u), c ∈ cl b := bxU (by simp (disch := with_unfolding_all
  intro c hc
  unfold cutS at hc
  exact List.mem_of_mem_drop (List.mem_of_mem_take (by simpa [cl] using hc))) only [bxI])
theorem cut_le (b : Str) (l u : Option Int) : (cutS b l u).length ≤ b.length := bxU (by simp (disch := with_unfolding_all
  rw [cl_len, cl_len]
  unfold cutS
  simp only [cl]
  rw [List.length_take, List.length_drop]
  omega) only [bxI])
theorem cut_back {b : Str} {k : Nat} (h : k ≤ b.length) : (cutS b (some (k : Int)) none).length = b.length - k := bxU (by simp (disch := with_unfolding_all
  have e9 : HT.sIx b.length 0 (some (k : Int)) = k := sIx_nat b.length 0 k h
  have e0 : HT.sIx b.length b.length none = b.length := rfl
  rw [cl_len]
  unfold cutS
  rw [e9, e0]
  simp only [cl]
  rw [List.length_take, List.length_drop, ← cl_len]
  omega) only [bxI])
theorem cl_one (c : Nat) : cl (⟨#[c]⟩ : Str) = [c] := rfl
theorem word_out {s : Str} {c : Nat} (hc : c ∈ cl s) (h : (decide (c ∈ letters.cps.toList) || decide (c ∈ digits.cps.toList)) = false) : isIdB s = false := bxU (by simp (disch := with_unfolding_all
  have : isWordB s = false := by
    unfold isWordB
    rw [Bool.and_eq_false_iff]
    refine .inr (Bool.eq_false_iff.mpr fun e => ?_)
    have := List.all_eq_true.mp e c hc
    rw [h] at this
    cases this
  unfold isIdB
  rw [this]
  rfl) only [bxI])
theorem word_long {s : Str} (h : 12 < s.length) : isIdB s = false := bxU (by simp (disch := with_unfolding_all
  have : isWordB s = false := by
    unfold isWordB
    rw [decide_eq_false (by omega : ¬ s.length ≤ 12)]
    simp
  unfold isIdB
  rw [this]
  rfl) only [bxI])
theorem head_out {s : Str} {c : Nat} {t : List Nat} (e : cl s = c :: t) (h : decide (c ∈ letters.cps.toList) = false) : isIdB s = false := bxU (by simp (disch := with_unfolding_all
  have : headB s = false := by
    unfold headB
    rw [show s.cps.toList = c :: t from e]
    exact h
  unfold isIdB
  rw [this]
  simp) only [bxI])
def oddSigns : Str := "ABCDEFGHIJKLMNOPQRSTUVWXYZ _-.:"
theorem odd_out : ∀ c ∈ cl oddSigns, (decide (c ∈ letters.cps.toList) || decide (c ∈ digits.cps.toList)) = false ∧ c < 1114112 := by decide +kernel
theorem dig_out : ∀ c ∈ cl ("0123456789" : Str), decide (c ∈ letters.cps.toList) = false ∧ c < 1114112 := by decide +kernel
theorem kept_bad : ∀ w ∈ keptWords, isIdB w = false ∧ w.length ≤ 12 ∧ PyData.strOk w = true := by decide +kernel
theorem long_ok : ∀ c ∈ cl ("abcdefghijklm" : Str), c < 1114112 := by decide +kernel
theorem at_cl {s : Str} {d : Int} (h0 : 0 ≤ d) (h1 : d < s.length) : ∃ c, atI s.cps.toList d = some c ∧ c ∈ cl s := bxU (by simp (disch := with_unfolding_all
  have hl : (cl s).length = s.length := (cl_len s).symm
  refine ⟨(cl s)[d.toNat]'(by omega), ?_, List.getElem_mem _⟩
  rw [atI_of h0 (by rw [show s.cps.toList.length = s.length from hl]; exact h1), List.getElem?_eq_getElem (by show d.toNat < (cl s).length; omega)]) only [bxI])
theorem d_law_bad_number {K : PySem.W.Frag} {a : Ad} : ∀ as Qd, as.length = 1 → (S_law_bad_number K a) as Qd → td_law_bad_number K a (fnEnds as Qd) (as ++ List.replicate (2 - 1) .un) := by
  rintro as Qd hl ⟨v, s, b, rfl, hT, hb, q⟩
  obtain ⟨A, rfl⟩ := hT.is
  show td_law_bad_number K a (fnEnds _ Qd) [.ow v A, .un]
  unfold td_law_bad_number
  (walk_at "~14"; (with_reducible refine dF_s ?_; refine dPow_s ?_; refine dOp_s ?_; refine dC_s ?_); walk_at "~75"; walk_at "~42")
  refine ⟨v, _, _, 9, rfl, hT, by omega, by decide, by decide, fun s1 d1 hT1 h10 h11 => ?_⟩
  obtain ⟨A1, rfl⟩ := hT1.is
  (walk_at "@f686d"; (with_reducible refine addI_s ?_); walk_at "@d4417"; (with_reducible refine sRet_s ?_; refine dF_s ?_; refine dLst_s ?_; refine aCons_s ?_; refine dSub_s ?_; refine dOp_s ?_; refine dNegC_s ?_); walk_at "~42")
  refine ⟨v, _, _, 9, rfl, hT1, by omega, by decide, by decide, fun s2 d2 hT2 h20 h21 => ?_⟩
  obtain ⟨A2, rfl⟩ := hT2.is
  (walk_at "@f686d"; (with_reducible refine opI0_s ?_); walk_at "~2"; walk_at "~2"; walk_at "~2"; walk_at "~2"; walk_at "~47"; walk_at "~7"; walk_at "~38"; walk_at "~7"; walk_at "~42")
  refine ⟨v, _, _, 7, rfl, hT2, by omega, by decide, by decide, fun s3 d3 hT3 h30 h31 => ?_⟩
  obtain ⟨A3, rfl⟩ := hT3.is
  (walk_at "@f686d")
  have q := fun d => q _ d (hT3.mono (by omega))
  have hd : d3 = 0 ∨ d3 = 1 ∨ d3 = 2 ∨ d3 = 3 ∨ d3 = 4 ∨ d3 = 5 ∨ d3 = 6 := by omega
  rcases hd with rfl | rfl | rfl | rfl | rfl | rfl | rfl
  · refine ixL_s (z := .int (-1 - d2)) rfl ?_
    (walk_at "@17e17")
    exact q _ trivial plD_int (by simp only [isNumD, decide_eq_false (by omega : ¬ 0 ≤ -1 - d2), Bool.false_and])
  · refine ixL_s (z := .bl true) rfl ?_
    (walk_at "@17e17")
    exact q _ trivial plD_bl rfl
  · refine ixL_s (z := .bl false) rfl ?_
    (walk_at "@17e17")
    exact q _ trivial plD_bl rfl
  · refine ixL_s (z := .str "0") rfl ?_
    (walk_at "@17e17")
    exact q _ (by show (1 : Nat) ≤ 1000000; decide) (plD_str (by decide +kernel)) rfl
  · refine ixL_s (z := .non) rfl ?_
    (walk_at "@17e17")
    exact q _ trivial plD_non rfl
  · refine ixL_s (z := .tup [.int 1]) rfl ?_
    (walk_at "@17e17")
    exact q _ (by show (1 : Nat) ≤ 1000000; decide) (plD_tup (n := 2) fun d m => by rw [List.mem_singleton.mp m]; exact plD_int) rfl
  · refine ixL_s (z := .int (10 ^ 60 + d1)) rfl ?_
    (walk_at "@17e17")
    exact q _ trivial plD_int (by simp only [isNumD, decide_eq_false (by omega : ¬ 10 ^ 60 + d1 < 10 ^ 60), Bool.and_false])
theorem d_law_bad_ident {K : PySem.W.Frag} {a : Ad} : ∀ as Qd, as.length = 1 → (S_law_bad_ident K a) as Qd → td_law_bad_ident K a (fnEnds as Qd) (as ++ List.replicate (8 - 1) .un) := by
  rintro as Qd hl ⟨v, s, b, rfl, hT, hb, q⟩
  have q0 := q
  obtain ⟨A, rfl⟩ := hT.is
  show td_law_bad_ident K a (fnEnds _ Qd) [.ow v A, .un, .un, .un, .un, .un, .un, .un]
  unfold td_law_bad_ident
  (walk_at "~14"; walk_at "~18"; (with_reducible refine mVal_s ?_); walk_at "~39"; walk_at "~9")
  refine ⟨v, _, b, rfl, hT, by omega, fun s1 z hT1 hz => ?_⟩
  obtain ⟨A1, rfl⟩ := hT1.is
  have hzl := id_len hz
  have hzo := cl_ok (id_ok hz)
  have hz0 : 0 < z.length := by
    have h := hz
    unfold isIdB isWordB at h
    simp only [Bool.and_eq_true, decide_eq_true_eq] at h
    omega
  (walk_at "~34"; walk_at "~14"; walk_at "~18"; (with_reducible refine mVal_s ?_); walk_at "~21"; walk_at "@1af17"; walk_at "~9")
  refine ⟨v, _, _, _, rfl, hT1, by omega, by omega, Int.le_trans (by omega : _ ≤ (12 : Int)) (by decide), fun s2 d2 hT2 h20 h21 => ?_⟩
  obtain ⟨A2, rfl⟩ := hT2.is
  (walk_at "~34"; walk_at "~14"; (with_reducible refine dF_s ?_; refine dC_s ?_); walk_at "~42")
  refine ⟨v, _, _, 31, rfl, hT2, by omega, by decide, by decide, fun s3 d3 hT3 h30 h31 => ?_⟩
  obtain ⟨A3, rfl⟩ := hT3.is
  obtain ⟨c3, e3, m3⟩ := at_cl (s := oddSigns) h30 (by rw [show oddSigns.length = 31 by decide +kernel]; exact h31)
  (walk_at "@f686d")
  refine ixS_s (by decide +kernel) e3 ?_
  (walk_at "~72"; walk_at "~44"; (with_reducible refine dSlS_s ?_); walk_at "@a3227"; (with_reducible refine oNone_s ?_; refine oSome_s ?_); walk_at "@a3227"; (with_reducible refine ok'_s ?_); walk_at "@21c0b"; walk_at "@a3227")
  have l1 := cut_le z none (some d2)
  have l2 := cut_le z (some (d2 + 1)) none
  have l3 := cut_le z none (some 11)
  have l4 : (cutS ("abcdefghijklm" : Str) (some ((z.length : Nat) : Int)) none).length = 13 - z.length := cut_back (b := ("abcdefghijklm" : Str)) (by show z.length ≤ 13; omega)
  have one : ∀ c : Nat, (⟨#[c]⟩ : Str).length = 1 := fun _ => rfl
  refine addS_s (by rw [one]; omega) ?_
  ((with_reducible refine dSlS_s ?_); walk_at "@a3227"; (with_reducible refine oSome_s ?_); walk_at "~55"; (with_reducible refine addI_s ?_; refine ok'_s ?_; refine oNone_s ?_); walk_at "@21c0b")
  refine addS_s (by rw [s_lapp, one]; omega) ?_
  (walk_at "~72"; walk_at "~44"; (with_reducible refine dC_s ?_); walk_at "~42")
  refine ⟨v, _, _, 10, rfl, hT3, by omega, by decide, by decide, fun s4 d4 hT4 h40 h41 => ?_⟩
  obtain ⟨A4, rfl⟩ := hT4.is
  obtain ⟨c4, e4, m4⟩ := at_cl (s := ("0123456789" : Str)) h40 (by rw [show ("0123456789" : Str).length = 10 by decide +kernel]; exact h41)
  (walk_at "@f686d")
  refine ixS_s (by decide +kernel) e4 ?_
  ((with_reducible refine dSlS_s ?_); walk_at "@a3227"; (with_reducible refine oNone_s ?_; refine oSome_s ?_; refine dC_s ?_; refine ok'_s ?_); walk_at "@21c0b")
  refine addS_s (by rw [one]; omega) ?_
  (walk_at "~72"; walk_at "~44"; walk_at "@a3227"; (with_reducible refine dSlS_s ?_; refine dC_s ?_; refine oSome_s ?_); walk_at "~21"; walk_at "@1af17"; (with_reducible refine ok'_s ?_; refine oNone_s ?_); walk_at "@21c0b"; walk_at "@16cb3"; walk_at "@a3227"; walk_at "@292fc"; walk_at "~72"; walk_at "~79"; walk_at "~9")
  refine ⟨rfl, ?_⟩
  (walk_at "@f686d"; walk_at "~42")
  refine ⟨v, _, _, 26, rfl, hT4, by omega, by decide, by decide, fun s5 d5 hT5 h50 h51 => ?_⟩
  obtain ⟨A5, rfl⟩ := hT5.is
  obtain ⟨w, ew, mw⟩ : ∃ w, atI (keptWords.map D.str) d5 = some (.str w) ∧ w ∈ keptWords := by
    have hl : keptWords.length = 26 := rfl
    refine ⟨keptWords[d5.toNat]'(by omega), ?_, List.getElem_mem _⟩
    rw [atI_of h50 (by rw [List.length_map]; omega), List.getElem?_map, List.getElem?_eq_getElem (by omega)]
    rfl
  (walk_at "@f686d")
  refine ixL_s ew ?_
  (walk_at "@d4417"; (with_reducible refine sRet_s ?_; refine dF_s ?_; refine dLst_s ?_); walk_at "~38"; walk_at "~2"; walk_at "~38"; walk_at "~38"; walk_at "~38"; walk_at "~2"; walk_at "~64"; walk_at "~42")
  refine ⟨v, _, _, 7, rfl, hT5, by omega, by decide, by decide, fun s6 d6 hT6 h60 h61 => ?_⟩
  obtain ⟨A6, rfl⟩ := hT6.is
  (walk_at "@f686d")
  have q := fun s (h1 : s.length ≤ 1000000) (h2 : ∀ c ∈ cl s, c < 1114112) h3 => q _ (.str s) (hT6.mono (by omega)) h1 (plD_str (strOk_cl h2)) h3
  have q0 := fun d => q0 _ d (hT6.mono (by omega))
  have hd : d6 = 0 ∨ d6 = 1 ∨ d6 = 2 ∨ d6 = 3 ∨ d6 = 4 ∨ d6 = 5 ∨ d6 = 6 := by omega
  rcases hd with rfl | rfl | rfl | rfl | rfl | rfl | rfl
  · refine ixL_s (z := .str w) rfl ?_
    (walk_at "@17e17")
    exact q _ (by have := (kept_bad w mw).2.1; omega) (cl_ok (kept_bad w mw).2.2) (kept_bad w mw).1
  · refine ixL_s (z := .str "") rfl ?_
    (walk_at "@17e17")
    exact q _ (by decide) (by decide) (by decide +kernel)
  · refine ixL_s (z := .str (cutS z none (some d2) ++ ⟨#[c3]⟩ ++ cutS z (some (d2 + 1)) none)) rfl ?_
    (walk_at "@17e17")
    refine q _ (by rw [s_lapp, s_lapp, one]; omega) (fun c m => ?_) (word_out (c := c3) (by rw [cl_app, cl_app, cl_one]; simp) (odd_out c3 m3).1)
    rw [cl_app, cl_app, cl_one] at m
    rcases List.mem_append.mp m with m | m
    · rcases List.mem_append.mp m with m | m
      · exact hzo c (cut_sub _ _ _ c m)
      · rw [List.mem_singleton.mp m]; exact (odd_out c3 m3).2
    · exact hzo c (cut_sub _ _ _ c m)
  · refine ixL_s (z := .str ((⟨#[c4]⟩ : Str) ++ cutS z none (some 11))) rfl ?_
    (walk_at "@17e17")
    refine q _ (by rw [s_lapp, one]; omega) (fun c m => ?_) (head_out (c := c4) (t := cl (cutS z none (some 11))) (by rw [cl_app, cl_one]; rfl) (dig_out c4 m4).1)
    rw [cl_app, cl_one] at m
    rcases List.mem_append.mp m with m | m
    · rw [List.mem_singleton.mp m]; exact (dig_out c4 m4).2
    · exact hzo c (cut_sub _ _ _ c m)
  · refine ixL_s (z := .str (z ++ cutS ("abcdefghijklm" : Str) (some ((z.length : Nat) : Int)) none ++ z)) rfl ?_
    (walk_at "@17e17")
    refine q _ (by rw [s_lapp, s_lapp, l4]; omega) (fun c m => ?_) (word_long (by rw [s_lapp, s_lapp, l4]; omega))
    rw [cl_app, cl_app] at m
    rcases List.mem_append.mp m with m | m
    · rcases List.mem_append.mp m with m | m
      · exact hzo c m
      · exact long_ok c (cut_sub _ _ _ c m)
    · exact hzo c m
  · refine ixL_s (z := .int 7) rfl ?_
    (walk_at "@17e17")
    exact q0 _ trivial plD_int rfl
  · refine ixL_s (z := .non) rfl ?_
    (walk_at "@17e17")
    exact q0 _ trivial plD_non rfl
theorem d_law_item {K : PySem.W.Frag} {a : Ad} : ∀ as Qd, as.length = 1 → (S_law_item K a) as Qd → td_law_item K a (fnEnds as Qd) (as ++ List.replicate (3 - 1) .un) := bxU (by simp (disch := with_unfolding_all
  rintro as Qd hl ⟨v, s, b, rfl, hT, hb, q⟩
  obtain ⟨A, rfl⟩ := hT.is
  show td_law_item K a (fnEnds _ Qd) [.ow v A, .un, .un]
  unfold td_law_item
  (walk_at "~14"; walk_at "~42")
  refine ⟨v, _, _, 9, rfl, hT, by omega, by decide, by decide, fun s1 d1 hT1 h10 h11 => ?_⟩
  obtain ⟨A1, rfl⟩ := hT1.is
  (walk_at "~34"; walk_at "~14"; (with_reducible refine dTup_s ?_; refine aCons_s ?_); walk_at "~18"; walk_at "~9")
  refine ⟨v, _, _, rfl, hT1, by omega, fun s2 n hT2 hn0 hn1 => ?_⟩
  obtain ⟨A2, rfl⟩ := hT2.is
  (walk_at "@f686d"; (with_reducible refine aCons_s ?_); walk_at "~18"; (with_reducible refine mVal_s ?_); walk_at "~39"; walk_at "~9")
  refine ⟨v, _, _, rfl, hT2, by omega, fun s3 z hT3 hz => ?_⟩
  obtain ⟨A3, rfl⟩ := hT3.is
  have hzl := id_len hz
  have hzp : ∀ {m : Nat}, plD m (.str z) := plD_str (id_ok hz)
  have hzs : Smp (.str z) := by show z.length ≤ 1000000; omega
  have it2 : ∀ x y, Smp x → Smp y → Itm (.tup [x, y]) := fun x y hx hy => ⟨by show (2 : Nat) ≤ 1000000; decide, fun n i e => by
    injection e with e
    obtain ⟨e1, e2⟩ := List.cons.inj e
    obtain ⟨e2, _⟩ := List.cons.inj e2
    subst e1 e2
    exact ⟨hx, hy⟩⟩
  have pl2 : ∀ x y, plD 3 x → plD 3 y → plD 5 (.tup [x, y]) := fun x y hx hy => (plD_tup (n := 3) fun d m => by
    simp only [List.mem_cons, List.not_mem_nil, or_false] at m
    rcases m with rfl | rfl
    · exact hx
    · exact hy).mono (by omega)
  (walk_at "@f686d"; walk_at "~7"; walk_at "@d4417"; walk_at "~15"; (with_reducible refine bvK_s ?_))
  refine ite_s (fun h0 => ?_) (fun h0 => ?_)
  · ((with_reducible refine sRet_s ?_); walk_at "~67"; (with_reducible refine dTup_s ?_; refine aCons_s ?_); walk_at "~18"; walk_at "~9")
    refine ⟨v, _, _, rfl, hT3, by omega, fun s4 d hT4 hs hp hb => ?_⟩
    obtain ⟨A4, rfl⟩ := hT4.is
    (walk_at "@f686d"; walk_at "~32"; walk_at "~6"; walk_at "@3d56a"; walk_at "~7"; walk_at "~71")
    have q := q _ _ (hT4.mono (by omega)) (it2 d _ hs hzs) (pl2 d _ hp hzp)
    rw [show isPairD (.tup [d, .str z]) = false by show (isNumD d && _) = false; rw [hb]; rfl] at q
    exact q
  · ((with_reducible refine sNext_s ?_); walk_at "~15"; (with_reducible refine bvK_s ?_))
    refine ite_s (fun h1 => ?_) (fun h1 => ?_)
    · ((with_reducible refine sRet_s ?_); walk_at "~67"; (with_reducible refine dTup_s ?_); walk_at "~32"; walk_at "~6"; walk_at "@3d56a"; (with_reducible refine aCons_s ?_); walk_at "~18"; walk_at "~9")
      refine ⟨v, _, _, rfl, hT3, by omega, fun s4 d hT4 hs hp hb => ?_⟩
      obtain ⟨A4, rfl⟩ := hT4.is
      (walk_at "@f686d"; walk_at "~7"; walk_at "~71")
      have q := q _ _ (hT4.mono (by omega)) (it2 (.int n) d trivial hs) (pl2 (.int n) d plD_int hp)
      rw [show isPairD (.tup [.int n, d]) = false by show (_ && isIdD d) = false; rw [hb, Bool.and_false]] at q
      exact q
    · ((with_reducible refine sNext_s ?_); walk_at "~15"; (with_reducible refine bvK_s ?_))
      refine ite_s (fun h2 => ?_) (fun h2 => ?_)
      · ((with_reducible refine sRet_s ?_); walk_at "~24"; walk_at "~32"; (with_reducible refine dLst_s ?_; refine aCons_s ?_; refine dCatT_s ?_; refine dOp_s ?_); walk_at "@a3227"; (with_reducible refine dTup_s ?_); walk_at "~32"; walk_at "~6"; walk_at "@3d56a"; walk_at "~7"; walk_at "@7d8b7"; (with_reducible refine aCons_s ?_; refine dTup_s ?_); walk_at "~32"; walk_at "~6"; walk_at "@3d56a"; walk_at "~7"; (with_reducible refine aCons_s ?_); walk_at "~21"; (with_reducible refine cbListT_s ?_); walk_at "~32"; walk_at "~6"; walk_at "@3d56a"; walk_at "~2"; (with_reducible refine aCons_s ?_; refine dTup_s ?_); walk_at "~7"; walk_at "~7"; walk_at "~42")
        refine ⟨v, _, _, 6, rfl, hT3, by omega, by decide, by decide, fun s4 d4 hT4 h40 h41 => ?_⟩
        obtain ⟨A4, rfl⟩ := hT4.is
        (walk_at "@f686d")
        have q := fun d hi hp (e : isPairD d = false) => (by have q := q _ d (hT4.mono (by omega)) hi hp; rw [e] at q; exact q : Qd (.tup [.str "bad", d]) [.ow v A4])
        have no : ∀ {xs : List D}, xs.length ≤ 3 → xs.length ≠ 2 → Itm (.tup xs) := fun {xs} h1 h2 => ⟨by show xs.length ≤ 1000000; omega, fun n i e => by injection e with e; rw [e] at h2; exact absurd rfl h2⟩
        have hd : d4 = 0 ∨ d4 = 1 ∨ d4 = 2 ∨ d4 = 3 ∨ d4 = 4 ∨ d4 = 5 := by omega
        rcases hd with rfl | rfl | rfl | rfl | rfl | rfl
        · refine ixL_s (z := .tup [.int n, .str z, .str z]) rfl ?_
          (walk_at "~71")
          exact q _ (no (by simp) (by simp)) ((plD_tup (n := 3) fun d m => by
            simp only [List.mem_cons, List.not_mem_nil, or_false] at m
            rcases m with rfl | rfl | rfl
            · exact plD_int
            · exact hzp
            · exact hzp).mono (by omega)) rfl
        · refine ixL_s (z := .tup [.int n]) rfl ?_
          (walk_at "~71")
          exact q _ (no (by simp) (by simp)) ((plD_tup (n := 3) fun d m => by rw [List.mem_singleton.mp m]; exact plD_int).mono (by omega)) rfl
        · refine ixL_s (z := .lst [.int n, .str z]) rfl ?_
          (walk_at "~71")
          exact q _ ⟨by show (2 : Nat) ≤ 1000000; decide, fun n i e => by cases e⟩ ((plD_lst (n := 3) fun d m => by
            simp only [List.mem_cons, List.not_mem_nil, or_false] at m
            rcases m with rfl | rfl
            · exact plD_int
            · exact hzp).mono (by omega)) rfl
        · refine ixL_s (z := .str z) rfl ?_
          (walk_at "~71")
          exact q _ ⟨hzs, fun n i e => by cases e⟩ hzp rfl
        · refine ixL_s (z := .non) rfl ?_
          (walk_at "~71")
          exact q _ ⟨trivial, fun n i e => by cases e⟩ plD_non rfl
        · refine ixL_s (z := .tup []) rfl ?_
          (walk_at "~71")
          exact q _ (no (by simp) (by simp)) ((plD_tup (n := 3) fun d m => by cases m).mono (by omega)) rfl
      · ((with_reducible refine sNext_s ?_; refine sRet_s ?_); walk_at "~24"; walk_at "~38"; walk_at "~71")
        have q := q _ _ (hT3.mono (by omega)) (it2 (.int n) _ trivial hzs) (pl2 (.int n) _ plD_int hzp)
        rw [show isPairD (.tup [.int n, .str z]) = true from good_isPair (p := (n, z)) ⟨hn0, hn1, hz⟩] at q
        exact q) only [bxI])
open PySem L2 DL
open DS (Pr ltM)
local macro_rules | `(tactic| walk_at "@20191") => `(tactic| ((with_reducible refine' callT1_s ?e0 ?e1 ?e2 ?e3 ?_); (case e0 => exact rfl); (case e1 => exact rfl); (case e2 => exact rfl); (case e3 => walk_at "dn")))
local macro_rules | `(tactic| walk_at "@8097e") => `(tactic| ((with_reducible refine' callT4_s ?e0 ?_); (case e0 => walk_at "dn")))
local macro_rules | `(tactic| walk_at "@2c3a5") => `(tactic| ((with_reducible refine' callT2_s ?e0 ?e1 ?e2 ?e3 ?_); (case e0 => exact rfl); (case e1 => exact rfl); (case e2 => exact rfl); (case e3 => walk_at "dn")))
local macro_rules | `(tactic| walk_at "@ed079") => `(tactic| ((with_reducible refine' callT3_s ?e0 ?_); (case e0 => walk_at "dn")))
local macro_rules | `(tactic| walk_at "@78a3e") => `(tactic| ((with_reducible refine' unSlotNx_s ?e0 ?_); (case e0 => walk_at "dn")))
theorem d_law_family {K : PySem.W.Frag} {a : Ad} (E : EF K a) (xa xC xd : Addr) : ∀ as Qd, as.length = 1 → (S_law_family K a xa xC xd) as Qd → td_law_family K a xa xC xd (fnEnds as Qd) (as ++ List.replicate (2 - 1) .un) := bxU (by simp (disch := with_unfolding_all
  rintro as Qd hl ⟨fds, rfl, rfl, q⟩
  show td_law_family K a xa _ xd (fnEnds _ Qd) [.ow (.ref xa) (excA K (nf a) xd fds), .un]
  unfold td_law_family
  (walk_at "~14"; (with_reducible refine dAndV_s ?_))
  refine dExIs_s E.e_BadPair.1 rfl E.k_BadPair_BadCaptures ?_
  ((with_reducible refine andVK_s ?_); walk_at "@0442c"; (with_reducible refine dAndV_s ?_))
  refine dExIs_s E.e_BadPair.1 rfl E.k_BadPair_BindspanError ?_
  ((with_reducible refine andVK_s ?_); walk_at "@0442c")
  refine dExIsT_s E.e_BadPair.1 rfl E.k_BadPair_ValueError ?_
  (walk_at "@d4417"; walk_at "~61"; walk_at "@a3227"; (with_reducible refine andVK_s ?_); walk_at "@0442c"; (with_reducible refine dAndV_s ?_; refine dNotV_s ?_))
  refine dExIs_s E.e_BadPair.1 rfl E.k_BadPair_NoKeeping ?_
  ((with_reducible refine notVK_s ?_; refine andVK_s ?_); walk_at "@0442c"; (with_reducible refine dNotV_s ?_))
  refine dExIs_s E.e_BadPair.1 rfl E.k_BadPair_TooMany ?_
  ((with_reducible refine notVK_s ?_); walk_at "@17e17")
  exact q) only [bxI])
theorem two_good : ∀ p ∈ two, goodP p := by
  have h : ∀ p ∈ two, 0 ≤ p.1 ∧ p.1 < 10 ^ 60 ∧ isIdB p.2 = true := by decide +kernel
  exact h
theorem pairD_inj {p q : Pr} (h : pairD p = pairD q) : p = q := bxU (by simp (disch := with_unfolding_all
  have h : D.tup [.int p.1, .str p.2] = .tup [.int q.1, .str q.2] := h
  injection h with h
  obtain ⟨h1, h2⟩ := List.cons.inj h
  obtain ⟨h2, _⟩ := List.cons.inj h2
  injection h1 with h1
  injection h2 with h2
  exact Prod.ext h1 h2) only [bxI])
theorem last_at {ds : List D} {x : D} (e : ds.getLast? = some x) : atI ds (-1) = some x := bxU (by simp (disch := with_unfolding_all
  obtain ⟨ys, rfl⟩ := List.getLast?_eq_some_iff.mp e
  exact DL.atI_last) only [bxI])
theorem sq_of {d : D} {ds : List D} (h : SeqD d ds) : isSq d := ⟨ds, h.1⟩
theorem d_law_joined {K : PySem.W.Frag} {a : Ad} : ∀ as Qd Xd, as.length = 3 → (S_law_joined a) as Qd Xd → td_law_joined K a (fnXc as Xd) (fnEnds as Qd) (as ++ List.replicate (3 - 3) .un) := bxU (by simp (disch := with_unfolding_all
  rintro as Qd Xd hl ⟨w, d, ds, rfl, hw0, hw9, hs, hn, hne, q, q8⟩
  show td_law_joined K a _ (fnEnds _ Qd) [.fz (capD a two), .fz (.int w), .fz d]
  unfold td_law_joined
  have sq := sq_of hs
  have tl : two.length ≤ 100 := by decide
  have hw : w = 0 ∨ w = 1 ∨ w = 2 ∨ w = 3 ∨ w = 4 ∨ w = 5 ∨ w = 6 ∨ w = 7 ∨ w = 8 ∨ w = 9 := by omega
  rcases hw with rfl | rfl | rfl | rfl | rfl | rfl | rfl | rfl | rfl | rfl
  · obtain ⟨qx, qq⟩ := q (by decide)
    (walk_at "~15"; walk_at "~16"; walk_at "~51"; walk_at "~45")
    refine ownXF_s ⟨⟨_, rfl⟩, sq⟩ ?_
    refine ⟨two, d, ds, rfl, two_good, tl, hs, hn, fun x ex => ?_, fun hb u hu => ?_⟩
    · (walk_at "@04db9")
      exact qx x ex
    · (walk_at "@17e17")
      exact qq hb u hu (fun c => by omega)
  · obtain ⟨qx, qq⟩ := q (by decide)
    (walk_at "~19"; walk_at "~15"; walk_at "~16"; walk_at "~51"; walk_at "~45")
    refine ownXF_s ⟨⟨_, rfl⟩, sq⟩ ?_
    refine ⟨two, d, ds, rfl, two_good, tl, hs, hn, fun x ex => ?_, fun hb u hu => ?_⟩
    · (walk_at "@04db9")
      exact qx x ex
    · (walk_at "@17e17")
      exact qq hb u hu (fun c => by omega)
  · obtain ⟨qx, qq⟩ := q (by decide)
    (walk_at "~23"; walk_at "~15"; walk_at "~16"; walk_at "~51"; walk_at "~45")
    refine ownXF_s ⟨⟨_, rfl⟩, sq⟩ ?_
    refine ⟨two, d, ds, rfl, two_good, tl, hs, hn, fun x ex => ?_, fun hb u hu => ?_⟩
    · (walk_at "@04db9")
      exact qx x ex
    · (walk_at "@17e17")
      exact qq hb u hu (fun c => by omega)
  · obtain ⟨qx, qq⟩ := q (by decide)
    (walk_at "~23"; walk_at "~19"; walk_at "~15"; walk_at "~16"; walk_at "~51"; walk_at "~45")
    refine ownXF_s ⟨⟨_, rfl⟩, sq⟩ ?_
    refine ⟨two, d, ds, rfl, two_good, tl, hs, hn, fun x ex => ?_, fun hb u hu => ?_⟩
    · (walk_at "@04db9")
      exact qx x ex
    · (walk_at "@17e17")
      exact qq hb u hu (fun c => by omega)
  · obtain ⟨qx, qq⟩ := q (by decide)
    (walk_at "~65"; walk_at "~15"; walk_at "~16"; walk_at "~51"; walk_at "~45")
    refine ownXT_s ⟨sq, ⟨_, rfl⟩⟩ ?_
    refine ⟨two, d, ds, rfl, two_good, tl, hs, hn, fun x ex => ?_, fun hb u hu => ?_⟩
    · (walk_at "@04db9")
      exact qx x ex
    · (walk_at "@17e17")
      exact qq hb u hu (fun c => by omega)
  · obtain ⟨qx, qq⟩ := q (by decide)
    (walk_at "~65"; walk_at "~19"; walk_at "~15"; walk_at "~16"; walk_at "~51"; walk_at "~45")
    refine ownXT_s ⟨sq, ⟨_, rfl⟩⟩ ?_
    refine ⟨two, d, ds, rfl, two_good, tl, hs, hn, fun x ex => ?_, fun hb u hu => ?_⟩
    · (walk_at "@04db9")
      exact qx x ex
    · (walk_at "@17e17")
      exact qq hb u hu (fun c => by omega)
  · obtain ⟨qx, qq⟩ := q (by decide)
    (walk_at "~65"; walk_at "~23"; walk_at "~15"; walk_at "~16"; walk_at "~51"; walk_at "~45")
    refine ownXT_s ⟨sq, ⟨_, rfl⟩⟩ ?_
    refine ⟨two, d, ds, rfl, two_good, tl, hs, hn, fun x ex => ?_, fun hb u hu => ?_⟩
    · (walk_at "@04db9")
      exact qx x ex
    · (walk_at "@17e17")
      exact qq hb u hu (fun c => by omega)
  · obtain ⟨qx, qq⟩ := q (by decide)
    (walk_at "~65"; walk_at "~23"; walk_at "~19"; walk_at "~15"; walk_at "~16"; walk_at "~51"; walk_at "~45")
    refine ownXT_s ⟨sq, ⟨_, rfl⟩⟩ ?_
    refine ⟨two, d, ds, rfl, two_good, tl, hs, hn, fun x ex => ?_, fun hb u hu => ?_⟩
    · (walk_at "@04db9")
      exact qx x ex
    · (walk_at "@17e17")
      exact qq hb u hu (fun c => by omega)
  · obtain ⟨x, ex⟩ : ∃ x, ds.getLast? = some x := by
      cases c : ds.getLast? with
      | none => exact absurd (List.getLast?_eq_none_iff.mp c) hne
      | some x => exact ⟨x, rfl⟩
    obtain ⟨qb, qg⟩ := q8 rfl x ex
    have mx : x ∈ ds := List.mem_of_getLast? ex
    (walk_at "~65"; walk_at "~65"; walk_at "~15"; walk_at "~16"; (with_reducible refine sRet_s ?_; refine dCMethSX_s ?_; refine dC_s ?_; refine cmethSXK_s ?_); walk_at "~32"; walk_at "~50")
    have at1 : ∀ R : D → EV (nf a) → Prop, R x [.fz (capD a two), .fz (.int 8), .fz d] → FK ixD R d (.int (-1)) [.fz (capD a two), .fz (.int 8), .fz d] := fun R r => by
      rcases hs.1 with rfl | rfl
      · exact ixL_s (last_at ex) r
      · exact ixT_s (last_at ex) r
    refine at1 _ ?_
    ((with_reducible refine aNil_s ?_))
    refine cmethSXK2_s (by simp) ⟨[x], rfl, ⟨.inr rfl, fun y m => by rw [List.mem_singleton.mp m]; exact hs.2.1 x mx, by simp⟩, fun y ey => ?_, fun hb ps e hg => ?_⟩
    · unfold badL at ey
      rw [List.find?_cons] at ey
      cases c : isPairD x with
      | true => rw [c] at ey; cases ey
      | false =>
        rw [c] at ey
        cases ey
        (walk_at "@04db9")
        exact qb c
    · match ps, e, hg with
      | [p], e, hg =>
        obtain ⟨e, _⟩ := List.cons.inj e
        have e1 : ascP [p] = [p] := (asc_once (l := [p]) (ps := [p]) (by simp) (fun _ => Iff.rfl)).symm.trans (List.mergeSort_singleton p)
        rw [e1]
        (walk_at "@17e17")
        exact qg p e (hg p (List.mem_singleton_self p))
      | [], e, _ => cases e
      | _ :: _ :: _, e, _ => cases e
  · obtain ⟨qx, qq⟩ := q (by decide)
    (walk_at "~65"; walk_at "~65"; walk_at "~19"; (with_reducible refine sRet_s ?_; refine dMakeX_s ?_); walk_at "~36"; walk_at "@a93ce")
    refine fun y => ⟨_, d, ds, rfl, hs, fun x ex => ?_, fun hb ps e hg => ?_⟩
    · (walk_at "@c5797"; walk_at "@04db9")
      exact qx x ex
    · (walk_at "~54")
      exact qq hb _ (good_ascP hg) (fun _ ps' e' hg' => by
        rw [e] at e'
        rw [(List.map_inj_right fun x y h => pairD_inj h).mp e'])) only [bxI])
theorem d_law_result {K : PySem.W.Frag} {a : Ad} (E : EF K a) : ∀ as Qd, as.length = 3 → (S_law_result a) as Qd → td_law_result K a (fnEnds as Qd) (as ++ List.replicate (5 - 3) .un) := bxU (by simp (disch := with_unfolding_all
  rintro as Qd hl ⟨w, d, ds, rfl, hw0, hw9, hs, hn, hne, q, q8⟩
  show td_law_result K a (fnEnds _ Qd) [.fz (capD a two), .fz (.int w), .fz d, .un, .un]
  unfold td_law_result
  ((with_reducible refine sSeq_s ?_; refine sTryH_s ?_; refine sSet_s ?_); walk_at "~67"; (with_reducible refine dFld_s ?_; refine dCallX_s ?_); walk_at "~10"; walk_at "~10"; walk_at "~36"; walk_at "@04557")
  refine ⟨w, d, ds, rfl, hw0, hw9, hs, hn, hne, fun h8 => ?_, fun h8 x ex => ?_⟩
  · obtain ⟨qe, qg⟩ := q h8
    refine ⟨fun x ex => ?_, fun hb u hu hw => ?_⟩
    · (walk_at "@03faf")
      refine xcHas_s E.x_BadPair_BadPair rfl (fun _ _ => by walk_at "dn") (fun xx dx => ?_)
      ((with_reducible refine sSet_s ?_); walk_at "~67"; walk_at "~18"; walk_at "~9")
      refine ⟨_, rfl, rfl, ?_⟩
      (walk_at "@f686d"; (with_reducible refine aCons_s ?_))
      refine dExF_s E.e_BadPair (by simp) rfl rfl ?_
      (walk_at "~7"; walk_at "@d4417"; walk_at "@78a3e"; walk_at "~70"; walk_at "@17e17")
      exact qe x ex
    · (walk_at "@f686d"; walk_at "@75a28"; walk_at "~7"; walk_at "@d4417"; walk_at "~70"; walk_at "@17e17")
      exact qg hb u hu hw
  · obtain ⟨qe, qg⟩ := q8 h8 x ex
    refine ⟨fun hx => ?_, fun p e hp => ?_⟩
    · (walk_at "@03faf")
      refine xcHas_s E.x_BadPair_BadPair rfl (fun _ _ => by walk_at "dn") (fun xx dx => ?_)
      ((with_reducible refine sSet_s ?_); walk_at "~67"; walk_at "~18"; walk_at "~9")
      refine ⟨_, rfl, rfl, ?_⟩
      (walk_at "@f686d"; (with_reducible refine aCons_s ?_))
      refine dExF_s E.e_BadPair (by simp) rfl rfl ?_
      (walk_at "~7"; walk_at "@d4417"; walk_at "@78a3e"; walk_at "~70"; walk_at "@17e17")
      exact qe hx
    · (walk_at "@f686d"; walk_at "@75a28"; walk_at "~7"; walk_at "@d4417"; walk_at "~70"; walk_at "@17e17")
      exact qg p e hp) only [bxI])
theorem eqNilL_s {nf : NFs} {env : EV nf} {Q : D → EV nf → Prop} {xs : List D} {n : Nat} (h : plD n (.lst xs)) (hn : n ≤ 64) (q : Q (.bl xs.isEmpty) env) : OpK (eqQ false) Q (.lst xs) (.lst []) env := by
  obtain ⟨p, e, sh⟩ := h.shaped hn
  refine eqDF_s e (q := .list []) rfl sh (by decide +kernel) ?_
  cases hp : pyOfs xs with
  | none => simp only [pyOf, hp] at e; cases e
  | some ps =>
    simp only [pyOf, hp] at e
    have e' : PyData.list ps = p := Option.some.inj e
    subst e'
    rw [show PyData.eqv (.list ps) (.list []) = xs.isEmpty from by simp only [PyData.eqv]; rw [eqvAll_nil, nil_of hp]]
    exact q
abbrev rowI (d : D) : D := .tup [.str (kindS (isPairD d)), d]
def secI : D → D
  | .tup [_, d] => d
  | d => d
def badI : D → Bool
  | .tup [_, d] => !isPairD d
  | _ => false
theorem sec_rows (its : List D) : (its.map rowI).map secI = its := bxU (by simp (disch := with_unfolding_all
  rw [List.map_map]
  exact (List.map_congr_left fun d _ => rfl).trans (List.map_id its)) only [bxI])
theorem bad_rows : ∀ its : List D, ((its.map rowI).filter badI).map secI = its.filter fun d => !isPairD d
  | [] => rfl
  | d :: its => by
    rw [List.map_cons, List.filter_cons, List.filter_cons, show badI (rowI d) = !isPairD d from rfl]
    cases isPairD d with
    | true => exact bad_rows its
    | false => exact congrArg (d :: ·) (bad_rows its)
theorem many_ok (n : Nat) (h : n ≤ 63) : 1 ≤ (if (if ((n : Nat) : Int) > 1 then ((n : Nat) : Int) else 1) < 63 then if ((n : Nat) : Int) > 1 then ((n : Nat) : Int) else 1 else 63).toNat ∧ (if (if ((n : Nat) : Int) > 1 then ((n : Nat) : Int) else 1) < 63 then if ((n : Nat) : Int) > 1 then ((n : Nat) : Int) else 1 else 63).toNat ≤ 63 := bxU (by simp (disch := with_unfolding_all
  by_cases h1 : ((n : Nat) : Int) > 1
  · rw [if_pos h1]
    split <;> omega
  · rw [if_neg h1]
    split <;> omega) only [bxI])
theorem asc_two : ascP two = two := by
  have h : two.Pairwise (fun p q => leM p q = true) := by decide +kernel
  exact (asc_once (l := two) (ps := two) (by decide +kernel) (fun _ => Iff.rfl)).symm.trans (List.mergeSort_of_pairwise h)
theorem d_law {K : PySem.W.Frag} {a : Ad} (E : EF K a) : ∀ as Qd, as.length = 1 → (S_law a) as Qd → td_law K a (fnEnds as Qd) (as ++ List.replicate (11 - 1) .un) := by
  rintro as Qd hl ⟨ns, rfl, hn, q⟩
  show td_law K a (fnEnds _ Qd) [.fz (.scr ns), .un, .un, .un, .un, .un, .un, .un, .un, .un, .un]
  unfold td_law
  (walk_at "~14"; (with_reducible refine dLc_s ?_; refine iR1_s ?_; refine aCons_s ?_; refine dCB_s ?_); walk_at "~2"; (with_reducible refine aCons_s ?_; refine dCB_s ?_); walk_at "~2"; (with_reducible refine aCons_s ?_); walk_at "~21"; (with_reducible refine lenR_s ?_; refine aNil_s ?_; refine maxK_s ?_; refine aNil_s ?_; refine minK_s ?_; refine aNil_s ?_); walk_at "@ad53f"; walk_at "@b9b76")
  have hM := many_ok ns.length hn
  generalize (if (if ((ns.length : Nat) : Int) > 1 then ((ns.length : Nat) : Int) else 1) < 63 then if ((ns.length : Nat) : Int) > 1 then ((ns.length : Nat) : Int) else 1 else 63).toNat = N at hM ⊢
  refine lc_inv (fun ds acc env => ∃ its : List D, acc = its.map rowI ∧ (∀ d ∈ its, Itm d ∧ plD 5 d) ∧ its.length + ds.length = N ∧ (∀ x ∈ ds, ∃ k : Int, x = .int k ∧ 0 ≤ k ∧ k ≤ 62) ∧ env = [.fz (.scr ns), .un, .un, .un, .un, .un, .un, .un, .un, .un, .un]) ?_ ?_ _ _ _
    ⟨[], rfl, (fun d m => by cases m), (by simp [rangeD]), fun x m => by
      obtain ⟨i, hi, rfl⟩ := List.mem_map.mp m
      have := List.mem_range.mp hi
      exact ⟨_, rfl, by omega, by omega⟩, rfl⟩
  · rintro x ds acc env R ⟨its, rfl, hi, hl2, hk, rfl⟩ hC
    obtain ⟨k, rfl, hk0, hk1⟩ := hk x (List.mem_cons_self ..)
    rw [List.length_cons] at hl2
    (walk_at "@b5b11"; (with_reducible refine dYes_s ?_); walk_at "@0442c"; (with_reducible refine dCallT_s ?_); walk_at "~10"; walk_at "~36"; walk_at "@20191")
    refine ⟨ns, k, rfl, hk0, by omega, fun v s hT => ?_⟩
    obtain ⟨A, rfl⟩ := hT.is
    (walk_at "@8097e"; (with_reducible refine mNil_s ?_); walk_at "@2c3a5")
    refine ⟨v, _, 0, rfl, hT, by decide, fun s1 d hT1 hit hpl => ?_⟩
    obtain ⟨A1, rfl⟩ := hT1.is
    (walk_at "@ed079")
    refine ⟨by rw [List.length_map]; omega, ?_⟩
    exact hC _ _ ⟨its ++ [d], by rw [List.map_append]; rfl, fun y m => by
      rcases List.mem_append.mp m with m | m
      · exact hi y m
      · rw [List.mem_singleton.mp m]; exact ⟨hit, hpl⟩, by rw [List.length_append, List.length_singleton]; omega, fun y m => hk y (List.mem_cons_of_mem _ m), rfl⟩
  · rintro acc env ⟨its, rfl, hi, hl2, _, rfl⟩
    have hl2 : its.length = N := hl2
    have hne : its ≠ [] := fun e => by rw [e] at hl2; simp at hl2; omega
    (walk_at "~72"; (with_reducible refine dLc_s ?_; refine iL_s ?_); walk_at "@a3227"; (with_reducible refine ilK_s ?_); walk_at "@b9b76")
    refine lc_map secI rfl (fun x hx R r => ?_) (by rw [List.length_map]; omega) ?_
    · obtain ⟨d, md, rfl⟩ := List.mem_map.mp hx
      (walk_at "~55"; walk_at "@3d56a")
      exact r
    · rw [sec_rows]
      (walk_at "~72"; (with_reducible refine dLc_s ?_; refine iL_s ?_); walk_at "@a3227"; (with_reducible refine ilK_s ?_); walk_at "@b9b76")
      refine lc_pure badI secI rfl (fun x hx R r => ?_) (fun x hx _ R r => ?_) (by rw [List.length_map]; omega) ?_
      · obtain ⟨d, md, rfl⟩ := List.mem_map.mp hx
        have r : R (!isPairD d) [.fz (.scr ns), .fz (.lst (its.map rowI)), .un, .fz (.lst its), .fz (.tup [.str (kindS (isPairD d)), d]), .un, .un, .un, .un, .un, .un] := r
        show dBv _ [.fz (.scr ns), .fz (.lst (its.map rowI)), .un, .fz (.lst its), .fz (.tup [.str (kindS (isPairD d)), d]), .un, .un, .un, .un, .un, .un] R
        have e1 : decide (("good" : Str) = "bad") = false := by decide +kernel
        have e2 : decide (("bad" : Str) = "bad") = true := by decide +kernel
        cases e : isPairD d with
        | true =>
          rw [e] at r
          show dBv _ [.fz (.scr ns), .fz (.lst (its.map rowI)), .un, .fz (.lst its), .fz (.tup [.str "good", d]), .un, .un, .un, .un, .un, .un] R
          (walk_at "~3"; walk_at "~55"; walk_at "@3d56a"; walk_at "~77")
          rw [e1]
          exact r
        | false =>
          rw [e] at r
          show dBv _ [.fz (.scr ns), .fz (.lst (its.map rowI)), .un, .fz (.lst its), .fz (.tup [.str "bad", d]), .un, .un, .un, .un, .un, .un] R
          (walk_at "~3"; walk_at "~55"; walk_at "@3d56a"; walk_at "~77")
          rw [e2]
          exact r
      · obtain ⟨d, md, rfl⟩ := List.mem_map.mp hx
        (walk_at "~55"; walk_at "@3d56a")
        exact r
      · rw [List.nil_append, bad_rows]
        (walk_at "~72"; walk_at "~40"; (with_reducible refine dLst_s ?_); walk_at "~78"; walk_at "~78"; walk_at "~7"; walk_at "~52")
        refine fun y => ⟨_, .lst (two.map pairD), two.map pairD, rfl, ⟨.inl rfl, fun x m => by
          obtain ⟨p, hp, rfl⟩ := List.mem_map.mp m
          exact itm_pair (two_good p hp), by decide⟩, fun x ex => (by rw [bad_none two_good] at ex; cases ex), fun _ ps e hg => ?_⟩
        obtain rfl := (List.map_inj_right fun x y h => pairD_inj h).mp e
        rw [asc_two]
        have hitm : ∀ x ∈ its, Itm x := fun x m => (hi x m).1
        have hpl : ∀ x ∈ its, plD 5 x := fun x m => (hi x m).2
        have hlen : its.length ≤ 100 := by omega
        have sqL : SeqD (.lst its) its := ⟨.inl rfl, hitm, by omega⟩
        have sqT : SeqD (.tup its) its := ⟨.inr rfl, hitm, by omega⟩
        have plB : plD 6 (.lst (its.filter fun d => !isPairD d)) := plD_lst fun x m => hpl x (List.mem_filter.mp m).1
        have plR : plD 6 (.lst its) := plD_lst hpl
        have plE : ∀ x ∈ its, plD 6 (errD x) := fun x m => plD_tup fun d md => by
          simp only [List.mem_cons, List.not_mem_nil, or_false] at md
          rcases md with rfl | rfl | rfl
          · exact plD_str (by decide +kernel)
          · exact plD_bl
          · exact hpl _ m
        have hbad : badL its = (its.filter fun d => !isPairD d).head? := by unfold badL; rw [List.head?_filter]
        have pl2 : plD 6 (.tup (two.map pairD)) := plD_tup fun d m => by
          obtain ⟨p, hp, rfl⟩ := List.mem_map.mp m
          refine (plD_tup (n := 3) fun d m => ?_).mono (by omega)
          simp only [List.mem_cons, List.not_mem_nil, or_false] at m
          rcases m with rfl | rfl
          · exact plD_int
          · exact plD_str (id_ok (two_good p hp).2.2)
        have plF : ∀ u : List Pr, (∀ p ∈ u, goodP p) → plD 6 (foundD u) := fun u hu => plD_tup (n := 5) fun d m => by
          simp only [List.mem_cons, List.not_mem_nil, or_false] at m
          rcases m with rfl | rfl
          · exact plD_str (by decide +kernel)
          · refine (plD_tup (n := 3) fun d m => ?_).mono (by omega)
            obtain ⟨p, hp, rfl⟩ := List.mem_map.mp m
            refine (plD_tup (n := 2) fun d m => ?_).mono (by omega)
            simp only [List.mem_cons, List.not_mem_nil, or_false] at m
            rcases m with rfl | rfl
            · exact plD_int
            · exact plD_str (id_ok (hu p hp).2.2)
        clear hi hl2 e hg
        (walk_at "@f1e75"; walk_at "@d4417")
        cases hx : badL its with
        | some x =>
          rw [hx] at hbad
          obtain ⟨t, et⟩ : ∃ t, (its.filter fun d => !isPairD d) = x :: t := by
            cases c : (its.filter fun d => !isPairD d) with
            | nil => rw [c] at hbad; cases hbad
            | cons z t => rw [c] at hbad; cases hbad; exact ⟨t, rfl⟩
          have mx : x ∈ its := (List.mem_filter.mp (by rw [et]; exact List.mem_cons_self)).1
          rw [et] at plB ⊢
          with_reducible refine seqC_id ?_
          refine cutC_s (fun env => ∃ s7 s8 s9 : SD (nf a), env = [.fz (.scr ns), .fz (.lst (its.map rowI)), .un, .fz (.lst its), .un, .fz (.lst (x :: t)), .fz (capD a two), s7, s8, s9, .un]) (fun R2 hR2 => ?_) (fun e he => ?_)
          · refine sFor_s ?_
            refine iT_s ?_
            refine dTup_s ?_
            repeat (refine aCons_s ?_; refine dC_s ?_)
            refine aNil_s ?_
            refine ⟨by simp, ?_⟩
            refine itK_s ?_
            refine for_inv (fun ds env => ∃ s7 s8 s9 : SD (nf a), (∀ x ∈ ds, ∃ w : Int, x = .int w ∧ 0 ≤ w ∧ w ≤ 9 ∧ w ≠ 8) ∧ env = [.fz (.scr ns), .fz (.lst (its.map rowI)), .un, .fz (.lst its), .un, .fz (.lst (x :: t)), .fz (capD a two), s7, s8, s9, .un]) ?_ ?_ _ _ ⟨.un, .un, .un, ?_, rfl⟩
            · rintro y ds env R ⟨s7, s8, s9, hw, rfl⟩ hC
              obtain ⟨w, rfl, hw0, hw9, hw8⟩ := hw y (List.mem_cons_self ..)
              have hC : ∀ s7 s8 s9, R [.fz (.scr ns), .fz (.lst (its.map rowI)), .un, .fz (.lst its), .un, .fz (.lst (x :: t)), .fz (capD a two), s7, s8, s9, .un] := fun s7 s8 s9 => hC _ ⟨s7, s8, s9, fun y m => hw y (List.mem_cons_of_mem _ m), rfl⟩
              clear hw
              (walk_at "@b5b11"; (with_reducible refine sFor_s ?_; refine iT_s ?_; refine dTup_s ?_; refine aCons_s ?_); walk_at "~73"; (with_reducible refine aCons_s ?_); walk_at "~21"; (with_reducible refine cbTuple_s ?_); walk_at "~7"; (with_reducible refine itK_s ?_; refine forCons_s ?_); walk_at "@b5b11"; walk_at "~14"; walk_at "~29"; walk_at "~10"; walk_at "~10"; walk_at "~9")
              refine ⟨w, .lst its, its, rfl, hw0, hw9, sqL, hlen, hne, fun _ => ⟨fun x2 ex => ?_, fun hb => (by rw [hx] at hb; cases hb)⟩, fun c => absurd c hw8⟩
              rw [hx] at ex
              cases ex
              (walk_at "~34"; walk_at "~62"; walk_at "~57"; walk_at "~39")
              refine neNilL_s plB (by omega) ?_
              (walk_at "~16"; walk_at "~57"; walk_at "~24"; walk_at "~2"; walk_at "~32"; walk_at "~6")
              refine ixL_s atI_zero ?_
              (walk_at "~7")
              refine neP_s (plE _ mx) (by omega) ?_
              (walk_at "~8"; walk_at "~62"; walk_at "~57"; walk_at "~39")
              refine eqNilL_s plB (by omega) ?_
              (walk_at "~4"; walk_at "~59"; (with_reducible refine sIf_s ?_; refine dOr_s ?_); walk_at "~3"; walk_at "~43"; (with_reducible refine dTup_s ?_); walk_at "~78"; walk_at "~78"; walk_at "~7")
              refine neP_s pl2 (by omega) ?_
              (walk_at "~60"; walk_at "~73"; walk_at "@a3227")
              refine neP_s plR (by omega) ?_
              (walk_at "~8"; (with_reducible refine forCons_s ?_); walk_at "@b5b11"; walk_at "~14"; walk_at "~29"; walk_at "~10"; walk_at "~10"; walk_at "~9")
              refine ⟨w, .tup its, its, rfl, hw0, hw9, sqT, hlen, hne, fun _ => ⟨fun x2 ex => ?_, fun hb => (by rw [hx] at hb; cases hb)⟩, fun c => absurd c hw8⟩
              rw [hx] at ex
              cases ex
              (walk_at "~34"; walk_at "~62"; walk_at "~57"; walk_at "~39")
              refine neNilL_s plB (by omega) ?_
              (walk_at "~16"; walk_at "~57"; walk_at "~24"; walk_at "~2"; walk_at "~32"; walk_at "~6")
              refine ixL_s atI_zero ?_
              (walk_at "~7")
              refine neP_s (plE _ mx) (by omega) ?_
              (walk_at "~8"; walk_at "~62"; walk_at "~57"; walk_at "~39")
              refine eqNilL_s plB (by omega) ?_
              (walk_at "~4"; walk_at "~59"; (with_reducible refine sIf_s ?_; refine dOr_s ?_); walk_at "~3"; walk_at "~43"; (with_reducible refine dTup_s ?_); walk_at "~78"; walk_at "~78"; walk_at "~7")
              refine neP_s pl2 (by omega) ?_
              (walk_at "~60"; walk_at "~21"; (with_reducible refine cbListT_s ?_); walk_at "@a3227")
              refine neP_s plR (by omega) ?_
              (walk_at "~8"; (with_reducible refine forNil_s ?_))
              exact hC _ _ _
            · rintro env ⟨s7, s8, s9, _, rfl⟩
              exact hR2 _ ⟨s7, s8, s9, rfl⟩
            · intro y m
              simp only [List.mem_cons, List.not_mem_nil, or_false] at m
              rcases m with h | h | h | h | h | h | h | h | h <;> (rw [h]; exact ⟨_, rfl, by decide, by decide, by decide⟩)
          · obtain ⟨s7, s8, s9, rfl⟩ := he
            (walk_at "~14"; walk_at "~29"; walk_at "~26"; (with_reducible refine mVal_s ?_); walk_at "~73"; walk_at "~9")
            refine ⟨8, .lst its, its, rfl, by decide, by decide, sqL, hlen, hne, fun c => absurd rfl c, fun _ l el => ⟨fun hf => ?_, fun p ep hp => ?_⟩⟩
            · have ml := List.mem_of_getLast? el
              have er : atI (its.map rowI) (-1) = some (rowI l) := last_at (by rw [List.getLast?_map, el]; rfl)
              (walk_at "~34"; walk_at "~13"; walk_at "~44"; walk_at "~50")
              refine ixL_s er ?_
              ((with_reducible refine dC_s ?_); walk_at "@3d56a"; walk_at "~77")
              rw [hf]
              (walk_at "@0442c"; (with_reducible refine sRet_s ?_); walk_at "~0"; walk_at "@a3227"; walk_at "~24"; walk_at "~2"; walk_at "~32"; walk_at "~50")
              refine ixL_s (last_at el) ?_
              (walk_at "~7")
              refine eqP_s (plE _ ml) (by omega) ?_
              (walk_at "@17e17")
              exact q
            · have er : atI (its.map rowI) (-1) = some (rowI l) := last_at (by rw [List.getLast?_map, el]; rfl)
              have ei : atI its (-1) = some l := last_at el
              (walk_at "~34"; walk_at "~13"; walk_at "~44"; walk_at "~50")
              refine ixL_s er ?_
              subst ep
              ((with_reducible refine dC_s ?_); walk_at "@3d56a"; walk_at "~77")
              rw [show isPairD (pairD p) = true from good_isPair hp]
              (walk_at "~59"; walk_at "~13"; walk_at "@a3227"; walk_at "~67"; (with_reducible refine dTup_s ?_); walk_at "~32"; walk_at "~50")
              refine ixL_s ei ?_
              (walk_at "~7"; walk_at "~7")
              refine neP_s (x := foundD [p]) (plF [p] (fun r m => by rw [List.mem_singleton.mp m]; exact hp)) (by omega) ?_
              (walk_at "~8"; (with_reducible refine sRet_s ?_; refine dOrV_s ?_); walk_at "~0"; walk_at "@a3227"; walk_at "~39")
              refine neNilL_s plB (by omega) ?_
              ((with_reducible refine orVK_s ?_); walk_at "@0442c"; walk_at "@17e17")
              exact q
        | none =>
          have et : (its.filter fun d => !isPairD d) = [] := by
            rw [hx] at hbad
            exact List.head?_eq_none_iff.mp hbad.symm
          rw [et] at plB ⊢
          with_reducible refine seqC_id ?_
          refine cutC_s (fun env => ∃ s7 s8 s9 : SD (nf a), env = [.fz (.scr ns), .fz (.lst (its.map rowI)), .un, .fz (.lst its), .un, .fz (.lst []), .fz (capD a two), s7, s8, s9, .un]) (fun R2 hR2 => ?_) (fun e he => ?_)
          · refine sFor_s ?_
            refine iT_s ?_
            refine dTup_s ?_
            repeat (refine aCons_s ?_; refine dC_s ?_)
            refine aNil_s ?_
            refine ⟨by simp, ?_⟩
            refine itK_s ?_
            refine for_inv (fun ds env => ∃ s7 s8 s9 : SD (nf a), (∀ x ∈ ds, ∃ w : Int, x = .int w ∧ 0 ≤ w ∧ w ≤ 9 ∧ w ≠ 8) ∧ env = [.fz (.scr ns), .fz (.lst (its.map rowI)), .un, .fz (.lst its), .un, .fz (.lst []), .fz (capD a two), s7, s8, s9, .un]) ?_ ?_ _ _ ⟨.un, .un, .un, ?_, rfl⟩
            · rintro y ds env R ⟨s7, s8, s9, hw, rfl⟩ hC
              obtain ⟨w, rfl, hw0, hw9, hw8⟩ := hw y (List.mem_cons_self ..)
              have hC : ∀ s7 s8 s9, R [.fz (.scr ns), .fz (.lst (its.map rowI)), .un, .fz (.lst its), .un, .fz (.lst []), .fz (capD a two), s7, s8, s9, .un] := fun s7 s8 s9 => hC _ ⟨s7, s8, s9, fun y m => hw y (List.mem_cons_of_mem _ m), rfl⟩
              clear hw
              (walk_at "@b5b11"; (with_reducible refine sFor_s ?_; refine iT_s ?_; refine dTup_s ?_; refine aCons_s ?_); walk_at "~73"; (with_reducible refine aCons_s ?_); walk_at "~21"; (with_reducible refine cbTuple_s ?_); walk_at "~7"; (with_reducible refine itK_s ?_; refine forCons_s ?_); walk_at "@b5b11"; walk_at "~14"; walk_at "~29"; walk_at "~10"; walk_at "~10"; walk_at "~9")
              refine ⟨w, .lst its, its, rfl, hw0, hw9, sqL, hlen, hne, fun _ => ⟨fun x2 ex => (by rw [hx] at ex; cases ex), fun _ u hu _ => ?_⟩, fun c => absurd c hw8⟩
              (walk_at "~34"; walk_at "~62"; walk_at "~57"; walk_at "~39")
              refine neNilL_s plB (by omega) ?_
              (walk_at "~4"; walk_at "~59"; walk_at "~62"; walk_at "~57"; walk_at "~39")
              refine eqNilL_s plB (by omega) ?_
              (walk_at "~16"; walk_at "~3"; walk_at "~55"; walk_at "@3d56a"; walk_at "~46"; walk_at "~8"; (with_reducible refine sIf_s ?_; refine dOr_s ?_); walk_at "~3"; walk_at "~43"; (with_reducible refine dTup_s ?_); walk_at "~78"; walk_at "~78"; walk_at "~7")
              refine neP_s pl2 (by omega) ?_
              (walk_at "~60"; walk_at "~73"; walk_at "@a3227")
              refine neP_s plR (by omega) ?_
              (walk_at "~8"; (with_reducible refine forCons_s ?_); walk_at "@b5b11"; walk_at "~14"; walk_at "~29"; walk_at "~10"; walk_at "~10"; walk_at "~9")
              refine ⟨w, .tup its, its, rfl, hw0, hw9, sqT, hlen, hne, fun _ => ⟨fun x2 ex => (by rw [hx] at ex; cases ex), fun _ u hu _ => ?_⟩, fun c => absurd c hw8⟩
              (walk_at "~34"; walk_at "~62"; walk_at "~57"; walk_at "~39")
              refine neNilL_s plB (by omega) ?_
              (walk_at "~4"; walk_at "~59"; walk_at "~62"; walk_at "~57"; walk_at "~39")
              refine eqNilL_s plB (by omega) ?_
              (walk_at "~16"; walk_at "~3"; walk_at "~55"; walk_at "@3d56a"; walk_at "~46"; walk_at "~8"; (with_reducible refine sIf_s ?_; refine dOr_s ?_); walk_at "~3"; walk_at "~43"; (with_reducible refine dTup_s ?_); walk_at "~78"; walk_at "~78"; walk_at "~7")
              refine neP_s pl2 (by omega) ?_
              (walk_at "~60"; walk_at "~21"; (with_reducible refine cbListT_s ?_); walk_at "@a3227")
              refine neP_s plR (by omega) ?_
              (walk_at "~8"; (with_reducible refine forNil_s ?_))
              exact hC _ _ _
            · rintro env ⟨s7, s8, s9, _, rfl⟩
              exact hR2 _ ⟨s7, s8, s9, rfl⟩
            · intro y m
              simp only [List.mem_cons, List.not_mem_nil, or_false] at m
              rcases m with h | h | h | h | h | h | h | h | h <;> (rw [h]; exact ⟨_, rfl, by decide, by decide, by decide⟩)
          · obtain ⟨s7, s8, s9, rfl⟩ := he
            (walk_at "~14"; walk_at "~29"; walk_at "~26"; (with_reducible refine mVal_s ?_); walk_at "~73"; walk_at "~9")
            refine ⟨8, .lst its, its, rfl, by decide, by decide, sqL, hlen, hne, fun c => absurd rfl c, fun _ l el => ⟨fun hf => ?_, fun p ep hp => ?_⟩⟩
            · have ml := List.mem_of_getLast? el
              have er : atI (its.map rowI) (-1) = some (rowI l) := last_at (by rw [List.getLast?_map, el]; rfl)
              (walk_at "~34"; walk_at "~13"; walk_at "~44"; walk_at "~50")
              refine ixL_s er ?_
              ((with_reducible refine dC_s ?_); walk_at "@3d56a"; walk_at "~77")
              rw [hf]
              (walk_at "@0442c"; (with_reducible refine sRet_s ?_); walk_at "~0"; walk_at "@a3227"; walk_at "~24"; walk_at "~2"; walk_at "~32"; walk_at "~50")
              refine ixL_s (last_at el) ?_
              (walk_at "~7")
              refine eqP_s (plE _ ml) (by omega) ?_
              (walk_at "@17e17")
              exact q
            · have er : atI (its.map rowI) (-1) = some (rowI l) := last_at (by rw [List.getLast?_map, el]; rfl)
              have ei : atI its (-1) = some l := last_at el
              (walk_at "~34"; walk_at "~13"; walk_at "~44"; walk_at "~50")
              refine ixL_s er ?_
              subst ep
              ((with_reducible refine dC_s ?_); walk_at "@3d56a"; walk_at "~77")
              rw [show isPairD (pairD p) = true from good_isPair hp]
              (walk_at "~59"; walk_at "~13"; walk_at "@a3227"; walk_at "~67"; (with_reducible refine dTup_s ?_); walk_at "~32"; walk_at "~50")
              refine ixL_s ei ?_
              (walk_at "~7"; walk_at "~7")
              refine neP_s (x := foundD [p]) (plF [p] (fun r m => by rw [List.mem_singleton.mp m]; exact hp)) (by omega) ?_
              (walk_at "~8"; (with_reducible refine sRet_s ?_; refine dOrV_s ?_); walk_at "~0"; walk_at "@a3227"; walk_at "~39")
              refine neNilL_s plB (by omega) ?_
              ((with_reducible refine orVK_s ?_); walk_at "@89822"; walk_at "~0"; walk_at "~29"; walk_at "~26"; (with_reducible refine mVal_s ?_); walk_at "~73"; walk_at "~9")
              refine ⟨9, .lst its, its, rfl, by decide, by decide, sqL, hlen, hne, fun _ => ⟨fun x2 ex => (by rw [hx] at ex; cases ex), fun _ u hu hw => ?_⟩, fun c => absurd c (by decide)⟩
              obtain ⟨ps, ep, hg⟩ := prs_of hx
              have hu2 := hw rfl ps ep hg
              subst hu2
              (walk_at "@f686d"; walk_at "~67"; walk_at "~5"; walk_at "~29"; walk_at "~9")
              refine ⟨ps, by rw [ep], hg, by rw [ep, List.length_map] at hlen; omega, ?_⟩
              (walk_at "@f686d"; (with_reducible refine aNil_s ?_; refine cbTuple_s ?_); walk_at "~7")
              refine eqP_s (x := foundD (ascP ps)) (plF _ (good_ascP hg)) (by omega) ?_
              (walk_at "@17e17")
              exact q
open PySem L2 DL
structure Txt (P : Program) (K : PySem.W.Frag) (mg : Str → Option Value) (a : Ad) : Prop where
  F_is_word : Fun K "is_word" "is_word" s_is_word a.f_is_word a.d_is_word
  b_is_word : Binds K a.d_is_word ["value"] []
  g_is_word : mg "is_word" = some (.ref a.f_is_word)
  k_is_word : PySem.W.keepIn K (.ref a.f_is_word) = true
  F_is_identifier : Fun K "is_identifier" "is_identifier" s_is_identifier a.f_is_identifier a.d_is_identifier
  b_is_identifier : Binds K a.d_is_identifier ["value"] []
  g_is_identifier : mg "is_identifier" = some (.ref a.f_is_identifier)
  k_is_identifier : PySem.W.keepIn K (.ref a.f_is_identifier) = true
  F_is_pair : Fun K "is_pair" "is_pair" s_is_pair a.f_is_pair a.d_is_pair
  b_is_pair : Binds K a.d_is_pair ["value"] []
  g_is_pair : mg "is_pair" = some (.ref a.f_is_pair)
  k_is_pair : PySem.W.keepIn K (.ref a.f_is_pair) = true
  F_in_order : Fun K "in_order" "in_order" s_in_order a.f_in_order a.d_in_order
  b_in_order : Binds K a.d_in_order ["pairs"] []
  g_in_order : mg "in_order" = some (.ref a.f_in_order)
  k_in_order : PySem.W.keepIn K (.ref a.f_in_order) = true
  F_Captures_init : FunD K "__init__" "Captures.__init__" (defArgs s_Captures_init) (defBody s_Captures_init) (defScope s_Captures_init) [.ref a.e_Captures] [] a.f_Captures_init a.d_Captures_init
  b_Captures_init : Binds K a.d_Captures_init ["self", "pairs"] []
  mk_Captures : Mk K a.C_Captures a.f_Captures_init
  F_Captures_of : Fun K "of" "Captures.of" s_Captures_of a.f_Captures_of a.d_Captures_of
  cm_Captures_of : ClX.CMet K a.C_Captures (.type "type") "of" a.p_Captures_of a.f_Captures_of
  F_pairs_of : Fun K "pairs_of" "pairs_of" s_pairs_of a.f_pairs_of a.d_pairs_of
  b_pairs_of : Binds K a.d_pairs_of ["other"] []
  g_pairs_of : mg "pairs_of" = some (.ref a.f_pairs_of)
  k_pairs_of : PySem.W.keepIn K (.ref a.f_pairs_of) = true
  F_shared_pairs : Fun K "shared_pairs" "shared_pairs" s_shared_pairs a.f_shared_pairs a.d_shared_pairs
  b_shared_pairs : Binds K a.d_shared_pairs ["first", "second"] []
  g_shared_pairs : mg "shared_pairs" = some (.ref a.f_shared_pairs)
  k_shared_pairs : PySem.W.keepIn K (.ref a.f_shared_pairs) = true
  F_missing_pairs : Fun K "missing_pairs" "missing_pairs" s_missing_pairs a.f_missing_pairs a.d_missing_pairs
  b_missing_pairs : Binds K a.d_missing_pairs ["first", "second"] []
  g_missing_pairs : mg "missing_pairs" = some (.ref a.f_missing_pairs)
  k_missing_pairs : PySem.W.keepIn K (.ref a.f_missing_pairs) = true
  F_Captures_or : Fun K "__or__" "Captures.__or__" s_Captures_or a.f_Captures_or a.d_Captures_or
  b_Captures_or : Binds K a.d_Captures_or ["self", "other"] []
  m_Captures_or : Meth K a.C_Captures "__or__" a.f_Captures_or
  F_Captures_ror : Fun K "__ror__" "Captures.__ror__" s_Captures_ror a.f_Captures_ror a.d_Captures_ror
  b_Captures_ror : Binds K a.d_Captures_ror ["self", "other"] []
  m_Captures_ror : Meth K a.C_Captures "__ror__" a.f_Captures_ror
  F_Captures_and : Fun K "__and__" "Captures.__and__" s_Captures_and a.f_Captures_and a.d_Captures_and
  b_Captures_and : Binds K a.d_Captures_and ["self", "other"] []
  m_Captures_and : Meth K a.C_Captures "__and__" a.f_Captures_and
  F_Captures_rand : Fun K "__rand__" "Captures.__rand__" s_Captures_rand a.f_Captures_rand a.d_Captures_rand
  b_Captures_rand : Binds K a.d_Captures_rand ["self", "other"] []
  m_Captures_rand : Meth K a.C_Captures "__rand__" a.f_Captures_rand
  F_Captures_sub : Fun K "__sub__" "Captures.__sub__" s_Captures_sub a.f_Captures_sub a.d_Captures_sub
  b_Captures_sub : Binds K a.d_Captures_sub ["self", "other"] []
  m_Captures_sub : Meth K a.C_Captures "__sub__" a.f_Captures_sub
  F_Captures_rsub : Fun K "__rsub__" "Captures.__rsub__" s_Captures_rsub a.f_Captures_rsub a.d_Captures_rsub
  b_Captures_rsub : Binds K a.d_Captures_rsub ["self", "other"] []
  m_Captures_rsub : Meth K a.C_Captures "__rsub__" a.f_Captures_rsub
  F_Captures_xor : Fun K "__xor__" "Captures.__xor__" s_Captures_xor a.f_Captures_xor a.d_Captures_xor
  b_Captures_xor : Binds K a.d_Captures_xor ["self", "other"] []
  m_Captures_xor : Meth K a.C_Captures "__xor__" a.f_Captures_xor
  F_Captures_rxor : Fun K "__rxor__" "Captures.__rxor__" s_Captures_rxor a.f_Captures_rxor a.d_Captures_rxor
  b_Captures_rxor : Binds K a.d_Captures_rxor ["self", "other"] []
  m_Captures_rxor : Meth K a.C_Captures "__rxor__" a.f_Captures_rxor
  F_law_tape : Fun K "_law_tape" "_law_tape" s_law_tape a.f_law_tape a.d_law_tape
  b_law_tape : Binds K a.d_law_tape ["_law_script", "_law_k"] []
  g_law_tape : mg "_law_tape" = some (.ref a.f_law_tape)
  k_law_tape : PySem.W.keepIn K (.ref a.f_law_tape) = true
  F_law_draw : Fun K "_law_draw" "_law_draw" s_law_draw a.f_law_draw a.d_law_draw
  b_law_draw : Binds K a.d_law_draw ["_law_tape_here", "_law_many"] []
  g_law_draw : mg "_law_draw" = some (.ref a.f_law_draw)
  k_law_draw : PySem.W.keepIn K (.ref a.f_law_draw) = true
  F_law_kept : Fun K "_law_kept" "_law_kept" s_law_kept a.f_law_kept a.d_law_kept
  b_law_kept : Binds K a.d_law_kept [] []
  g_law_kept : mg "_law_kept" = some (.ref a.f_law_kept)
  k_law_kept : PySem.W.keepIn K (.ref a.f_law_kept) = true
  F_law_signs : Fun K "_law_signs" "_law_signs" s_law_signs a.f_law_signs a.d_law_signs
  b_law_signs : Binds K a.d_law_signs [] []
  g_law_signs : mg "_law_signs" = some (.ref a.f_law_signs)
  k_law_signs : PySem.W.keepIn K (.ref a.f_law_signs) = true
  F_law_spelled : Fun K "_law_spelled" "_law_spelled" s_law_spelled a.f_law_spelled a.d_law_spelled
  b_law_spelled : Binds K a.d_law_spelled ["_law_tape_here", "_law_used"] []
  g_law_spelled : mg "_law_spelled" = some (.ref a.f_law_spelled)
  k_law_spelled : PySem.W.keepIn K (.ref a.f_law_spelled) = true
  F_law_ident : Fun K "_law_ident" "_law_ident" s_law_ident a.f_law_ident a.d_law_ident
  b_law_ident : Binds K a.d_law_ident ["_law_tape_here", "_law_used"] []
  g_law_ident : mg "_law_ident" = some (.ref a.f_law_ident)
  k_law_ident : PySem.W.keepIn K (.ref a.f_law_ident) = true
  F_law_number : Fun K "_law_number" "_law_number" s_law_number a.f_law_number a.d_law_number
  b_law_number : Binds K a.d_law_number ["_law_tape_here"] []
  g_law_number : mg "_law_number" = some (.ref a.f_law_number)
  k_law_number : PySem.W.keepIn K (.ref a.f_law_number) = true
  F_law_ascending : Fun K "_law_ascending" "_law_ascending" s_law_ascending a.f_law_ascending a.d_law_ascending
  b_law_ascending : Binds K a.d_law_ascending ["_law_pairs_here"] []
  g_law_ascending : mg "_law_ascending" = some (.ref a.f_law_ascending)
  k_law_ascending : PySem.W.keepIn K (.ref a.f_law_ascending) = true
  F_law_bad_number : Fun K "_law_bad_number" "_law_bad_number" s_law_bad_number a.f_law_bad_number a.d_law_bad_number
  b_law_bad_number : Binds K a.d_law_bad_number ["_law_tape_here"] []
  g_law_bad_number : mg "_law_bad_number" = some (.ref a.f_law_bad_number)
  k_law_bad_number : PySem.W.keepIn K (.ref a.f_law_bad_number) = true
  F_law_bad_ident : Fun K "_law_bad_ident" "_law_bad_ident" s_law_bad_ident a.f_law_bad_ident a.d_law_bad_ident
  b_law_bad_ident : Binds K a.d_law_bad_ident ["_law_tape_here"] []
  g_law_bad_ident : mg "_law_bad_ident" = some (.ref a.f_law_bad_ident)
  k_law_bad_ident : PySem.W.keepIn K (.ref a.f_law_bad_ident) = true
  F_law_item : Fun K "_law_item" "_law_item" s_law_item a.f_law_item a.d_law_item
  b_law_item : Binds K a.d_law_item ["_law_tape_here"] []
  g_law_item : mg "_law_item" = some (.ref a.f_law_item)
  k_law_item : PySem.W.keepIn K (.ref a.f_law_item) = true
  F_law_family : Fun K "_law_family" "_law_family" s_law_family a.f_law_family a.d_law_family
  b_law_family : Binds K a.d_law_family ["_law_e"] []
  g_law_family : mg "_law_family" = some (.ref a.f_law_family)
  k_law_family : PySem.W.keepIn K (.ref a.f_law_family) = true
  F_law_joined : Fun K "_law_joined" "_law_joined" s_law_joined a.f_law_joined a.d_law_joined
  b_law_joined : Binds K a.d_law_joined ["_law_made", "_law_way", "_law_items"] []
  g_law_joined : mg "_law_joined" = some (.ref a.f_law_joined)
  k_law_joined : PySem.W.keepIn K (.ref a.f_law_joined) = true
  F_law_result : Fun K "_law_result" "_law_result" s_law_result a.f_law_result a.d_law_result
  b_law_result : Binds K a.d_law_result ["_law_made", "_law_way", "_law_items"] []
  g_law_result : mg "_law_result" = some (.ref a.f_law_result)
  k_law_result : PySem.W.keepIn K (.ref a.f_law_result) = true
  F_law : Fun K "law" "law" s_law a.f_law a.d_law
  b_law : Binds K a.d_law ["_law_script"] []
  g_law : mg "law" = some (.ref a.f_law)
  k_law : PySem.W.keepIn K (.ref a.f_law) = true
  cr_Captures : ClX.CRead K a.C_Captures (.type "type")
  c_Captures : Cls K a.C_Captures
  i_Captures : IsiC K a.C_Captures
  g_Captures : mg "Captures" = some (.ref a.C_Captures)
  n_Captures_pairs : NoAttr K a.C_Captures "pairs"
  g_BadPair : mg "BadPair" = some (.ref a.C_BadPair)
  g_BadCaptures : mg "BadCaptures" = some (.ref a.C_BadCaptures)
  g_BindspanError : mg "BindspanError" = some (.ref a.C_BindspanError)
  g_NoKeeping : mg "NoKeeping" = some (.ref a.C_NoKeeping)
  g_TooMany : mg "TooMany" = some (.ref a.C_TooMany)
  S_BadPair : SupE K P a.C_BadPair ["pair"]
  E : EF K a
  op_or : OpC K a.C_Captures "or" a.f_Captures_or
  opB_or : OpB K a.C_Captures "or" a.f_Captures_or a.f_Captures_ror
  opL_or : OpT K a.C_Captures "or" "list" (some (.ref a.f_Captures_ror)) none none
  opP_or : OpT K a.C_Captures "or" "tuple" (some (.ref a.f_Captures_ror)) none none
  op_and : OpC K a.C_Captures "and" a.f_Captures_and
  opB_and : OpB K a.C_Captures "and" a.f_Captures_and a.f_Captures_rand
  opL_and : OpT K a.C_Captures "and" "list" (some (.ref a.f_Captures_rand)) none none
  opP_and : OpT K a.C_Captures "and" "tuple" (some (.ref a.f_Captures_rand)) none none
  op_sub : OpC K a.C_Captures "sub" a.f_Captures_sub
  opB_sub : OpB K a.C_Captures "sub" a.f_Captures_sub a.f_Captures_rsub
  opL_sub : OpT K a.C_Captures "sub" "list" (some (.ref a.f_Captures_rsub)) none none
  opP_sub : OpT K a.C_Captures "sub" "tuple" (some (.ref a.f_Captures_rsub)) none none
  op_xor : OpC K a.C_Captures "xor" a.f_Captures_xor
  opB_xor : OpB K a.C_Captures "xor" a.f_Captures_xor a.f_Captures_rxor
  opL_xor : OpT K a.C_Captures "xor" "list" (some (.ref a.f_Captures_rxor)) none none
  opP_xor : OpT K a.C_Captures "xor" "tuple" (some (.ref a.f_Captures_rxor)) none none
  kit_lC : PySem.W.kitOne K (.type "list") (.ref a.C_Captures) = some false
  kit_pC : PySem.W.kitOne K (.type "tuple") (.ref a.C_Captures) = some false
  z_set : mg "set" = none
  z_min : mg "min" = none
  z_max : mg "max" = none
  z_super : mg "super" = none
  z_ValueError : mg "ValueError" = none
  z_len : mg "len" = none
  z_int : mg "int" = none
  z_str : mg "str" = none
  z_all : mg "all" = none
  z_tuple : mg "tuple" = none
  z_list : mg "list" = none
  z_sorted : mg "sorted" = none
  z_isinstance : mg "isinstance" = none
  z_range : mg "range" = none
  z_bool : mg "bool" = none
  g_LETTERS : mg "LETTERS" = some (.str "abcdefghijklmnopqrstuvwxyz" a.t_LETTERS)
  g_DIGITS : mg "DIGITS" = some (.str "0123456789" a.t_DIGITS)
  g_LONGEST : mg "LONGEST" = some (.int 12 a.t_LONGEST)
  g_KEPT : mg "KEPT" = some (.ref a.p_KEPT)
  r_KEPT : ∀ nf H, Rel K nf H (.ref a.p_KEPT) kept
  g_MOST_NUMBER : mg "MOST_NUMBER" = some (.int (10 ^ 60) a.t_MOST_NUMBER)
section
variable {P : Program} {w : World} {K : PySem.W.Frag} {mg : Str → Option Value} {base : Heap} {a : Ad}
theorem ok_is_word (T : Txt P K mg a) : FnOk P w K mg base CX0 1 a.f_is_word a.d_is_word ["value"] (toSp K (nf a) 1 (S_is_wordA a)) := by
  refine T.F_is_word.ok sc_is_word (fun vs H Q E h => h.1) (fun cdv A outer s H vs Q E hr h => ?_)
  have hN := sc_is_word.nd
  have hu := hu_of hr
  have hu6 := hr.units
  refine body_ok (td := td_is_word K a) ?_ (by decide) (d_is_word) h
  exact (ds_cons (ds_if (DW.dc (dw_or (dc_not (dc_val (de_cb call_isi cd_isi rfl T.z_isinstance (by decide +kernel) (da_cons (dv 0) (da_cons (de_bty rfl T.z_str (by decide +kernel)) da_nil))))) (dw_or1 (dc_not (dc_chain op_le op_le de_int (de_cb call_lenG cd_lenG rfl T.z_len boot_len (da_cons (dv 0) da_nil)) (de_gint rfl T.g_LONGEST)))))) (ds_one (ds_ret de_bl)) ds_nil)
      (ds_one (ds_ret (de_cb (cr_all rfl) cd_all rfl T.z_all (by decide +kernel) (da_cons (de_lc rfl hN (di_str (dv 0)) (own := [("sign", 1)]) (show BlkOk ["value", "sign"] (defScope s_is_word) _ _ from ⟨rfl, by decide +kernel, by decide +kernel, by decide +kernel, by decide +kernel⟩) (fun s H C cl fp => (dg_name (i := 1) hN rfl (by first | exact Or.inl rfl | exact Or.inr rfl))) (fun s H C cl fp => dts_nil) (fun s H C cl fp => (de_or (de_inG hu (dv 1) (de_gstr rfl T.g_LETTERS)) (de_one (de_inG hu (dv 1) (de_gstr rfl T.g_DIGITS)))))) da_nil)))))
theorem ok_is_identifier (T : Txt P K mg a) : FnOk P w K mg base CX0 2 a.f_is_identifier a.d_is_identifier ["value"] (toSp K (nf a) 1 (S_is_identifierA a)) := bxU (by simp (disch := with_unfolding_all
  have G_is_word : FnOk P w K mg base CX0 1 a.f_is_word a.d_is_word ["value"] (toSp K (nf a) 1 (S_is_wordA a)) := ok_is_word T
  have b_is_word := T.b_is_word
  refine T.F_is_identifier.ok sc_is_identifier (fun vs H Q E h => h.1) (fun cdv A outer s H vs Q E hr h => ?_)
  have hN := sc_is_identifier.nd
  have hu := hu_of hr
  have hu6 := hr.units
  refine body_ok (td := td_is_identifier K a) ?_ (by decide) (d_is_identifier) h
  exact (ds_one (ds_ret (de_and (de_call G_is_word (hr.mono (by decide)) rfl T.g_is_word T.k_is_word b_is_word .nil (fun _ => .nil) pass0 (dm_val (dv 0) dm_nil)) (de_and (de_inG hu (de_ixG hu (dv 0) de_int) (de_gstr rfl T.g_LETTERS)) (de_one (de_ninG hu (dv 0) (de_gany rfl T.g_KEPT (T.r_KEPT _))))))))) only [bxI])
theorem ok_is_pair (T : Txt P K mg a) : FnOk P w K mg base CX0 3 a.f_is_pair a.d_is_pair ["value"] (toSp K (nf a) 1 (S_is_pairA a)) := by
  have G_is_identifier : FnOk P w K mg base CX0 2 a.f_is_identifier a.d_is_identifier ["value"] (toSp K (nf a) 1 (S_is_identifierA a)) := ok_is_identifier T
  have b_is_identifier := T.b_is_identifier
  refine T.F_is_pair.ok sc_is_pair (fun vs H Q E h => h.1) (fun cdv A outer s H vs Q E hr h => ?_)
  have hN := sc_is_pair.nd
  have hu := hu_of hr
  have hu6 := hr.units
  refine body_ok (td := td_is_pair K a) ?_ (by decide) (d_is_pair) h
  exact (ds_cons (ds_if (DW.dc (dw_or (dc_not (dc_val (de_cb call_isi cd_isi rfl T.z_isinstance (by decide +kernel) (da_cons (dv 0) (da_cons (de_bty rfl T.z_tuple (by decide +kernel)) da_nil))))) (dw_or1 (dc_neG hu6 (de_cb call_lenG cd_lenG rfl T.z_len boot_len (da_cons (dv 0) da_nil)) de_int)))) (ds_one (ds_ret de_bl)) ds_nil)
      (ds_cons (ds_asg (dv 0) (dg_tup rfl (dgs_cons (dg_name (i := 1) hN rfl (by first | exact Or.inl rfl | exact Or.inr rfl)) (dgs_cons (dg_name (i := 2) hN rfl (by first | exact Or.inl rfl | exact Or.inr rfl)) dgs_nil))))
      (ds_cons (ds_if (DW.dc (dw_or (dc_not (dc_val (de_cb call_isi cd_isi rfl T.z_isinstance (by decide +kernel) (da_cons (dv 1) (da_cons (de_bty rfl T.z_int (by decide +kernel)) da_nil))))) (dw_or (dc_val (de_cb call_isi cd_isi rfl T.z_isinstance (by decide +kernel) (da_cons (dv 1) (da_cons (de_bty rfl T.z_bool (by decide +kernel)) da_nil)))) (dw_or1 (dc_not (dc_chain op_le op_lt de_int (dv 1) (de_gint rfl T.g_MOST_NUMBER))))))) (ds_one (ds_ret de_bl)) ds_nil)
      (ds_one (ds_ret (de_call G_is_identifier (hr.mono (by decide)) rfl T.g_is_identifier T.k_is_identifier b_is_identifier .nil (fun _ => .nil) pass0 (dm_val (dv 2) dm_nil)))))))
theorem ok_in_order (T : Txt P K mg a) : FnOk P w K mg base (L2.CX P w) 4 a.f_in_order a.d_in_order ["pairs"] (toSpXT K (nf a) 1 (S_in_orderX a)) := by
  have G_is_pair : FnOk P w K mg base CX0 3 a.f_is_pair a.d_is_pair ["value"] (toSp K (nf a) 1 (S_is_pairA a)) := ok_is_pair T
  have b_is_pair := T.b_is_pair
  refine T.F_in_order.okX sc_in_order (fun vs H Q E h => h.2.1) (fun cdv A outer s H vs Q E hr h => ?_)
  have hN := sc_in_order.nd
  have hu := hu_of hr
  have hu6 := hr.units
  refine body_okXT (td := fun xc => td_in_order K a xc) (fun A' xc tb lk => ?_) (by decide) (d_in_order) h
  exact (ds_cons (ds_for (passes_of rfl) rfl (di_seq (dv 0)) (dg_name (i := 1) hN rfl (by first | exact Or.inl rfl | exact Or.inr rfl)) (ds_one (ds_if (dc_not (dc_val (de_call G_is_pair (hr.mono (by decide)) rfl T.g_is_pair T.k_is_pair b_is_pair .nil (fun _ => .nil) pass0 (dm_val (dv 1) dm_nil)))) (ds_one (ds_raiseE (takes_of rfl rfl rfl rfl) lk T.S_BadPair hr rfl T.g_BadPair T.z_super (da_cons (dv 1) da_nil))) ds_nil)))
      (ds_one (ds_ret (de_ct call_tuple_of cd_tuple rfl T.z_tuple (by decide +kernel) (da_cons (de_sortSet rfl hu6 rfl T.z_sorted rfl T.z_set (da_cons (dv 0) da_nil)) da_nil)))))
theorem ok_Captures_init (T : Txt P K mg a) : FnOk P w K mg base (L2.CX P w) 5 a.f_Captures_init a.d_Captures_init ["self", "pairs"] (toSpXT K (nf a) 2 (S_Captures_initX K a)) := bxU (by simp (disch := with_unfolding_all
  have G_in_order : FnOk P w K mg base (L2.CX P w) 4 a.f_in_order a.d_in_order ["pairs"] (toSpXT K (nf a) 1 (S_in_orderX a)) := ok_in_order T
  have b_in_order := T.b_in_order
  refine T.F_Captures_init.ok sc_Captures_init (fun vs H Q E h => h.2.1) (fun cdv A outer s H vs Q E hr h => ?_)
  have hN := sc_Captures_init.nd
  have hu := hu_of hr
  have hu6 := hr.units
  refine body_okXT (td := fun xc => td_Captures_init K a xc) (fun A' xc tb lk => ?_) (by decide) (d_Captures_init) h
  exact (ds_one (ds_fldS (pv 0) (de_callXT tb G_in_order (hr.mono (by decide)) rfl T.g_in_order T.k_in_order b_in_order .nil (fun _ => .nil) (takes_of rfl rfl rfl rfl) lk (dm_val (dv 1) dm_nil)) T.c_Captures T.n_Captures_pairs))) only [bxI])
theorem ok_Captures_of (T : Txt P K mg a) : FnR P w K mg base (L2.CX P w) 7 a.f_Captures_of (starSp 1 (toSpXT K (nf a) 2 (S_Captures_ofX a))) := bxU (by simp (disch := with_unfolding_all
  have G_Captures_init : FnOk P w K mg base (L2.CX P w) 5 a.f_Captures_init a.d_Captures_init ["self", "pairs"] (toSpXT K (nf a) 2 (S_Captures_initX K a)) := ok_Captures_init T
  have b_Captures_init := T.b_Captures_init
  refine fun_okSX (ps := ["cls"]) (pv := "pairs") T.F_Captures_of sc_Captures_of (fun _ _ _ _ _ _ us rest hl => match us, rest, hl with | [_], [], _ => rfl | [_], _ :: _, _ => rfl) (fun cdv A outer s H vs Q E hr h => ?_)
  have hN := sc_Captures_of.nd
  have hu := hu_of hr
  have hu6 := hr.units
  refine body_okXT (td := fun xc => td_Captures_of K a xc) (fun A' xc tb lk => ?_) (by decide) (d_Captures_of) h
  exact (ds_one (ds_ret (de_makeLXT (i := 0) tb rfl (by first | exact Or.inl rfl | exact Or.inr (by first | exact Or.inl rfl | exact Or.inr rfl) | exact Or.inr (Or.inr rfl)) T.mk_Captures G_Captures_init (hr.mono (by decide)) b_Captures_init .nil (fun _ => .nil) (takes_of rfl rfl rfl rfl) lk (dm_val (dv 1) dm_nil))))) only [bxI])
theorem ok_pairs_of (T : Txt P K mg a) : FnOk P w K mg base (L2.CX P w) 5 a.f_pairs_of a.d_pairs_of ["other"] (toSpXT K (nf a) 1 (S_in_orderX a)) := by
  have G_in_order : FnOk P w K mg base (L2.CX P w) 4 a.f_in_order a.d_in_order ["pairs"] (toSpXT K (nf a) 1 (S_in_orderX a)) := ok_in_order T
  have b_in_order := T.b_in_order
  refine T.F_pairs_of.okX sc_pairs_of (fun vs H Q E h => h.2.1) (fun cdv A outer s H vs Q E hr h => ?_)
  have hN := sc_pairs_of.nd
  have hu := hu_of hr
  have hu6 := hr.units
  refine body_okXT (td := fun xc => td_pairs_of K a xc) (fun A' xc tb lk => ?_) (by decide) (d_pairs_of T.i_Captures T.kit_lC T.kit_pC) h
  exact (ds_cons (ds_if (dc_val (de_cb call_isi cd_isi rfl T.z_isinstance (by decide +kernel) (da_cons (dv 0) (da_cons (de_gref rfl T.g_Captures) da_nil)))) (ds_one (ds_ret (de_fld (dv 0) T.c_Captures T.n_Captures_pairs))) ds_nil)
      (ds_one (ds_ret (de_callXT tb G_in_order (hr.mono (by decide)) rfl T.g_in_order T.k_in_order b_in_order .nil (fun _ => .nil) (takes_of rfl rfl rfl rfl) lk (dm_val (dv 0) dm_nil)))))
theorem ok_shared_pairs (T : Txt P K mg a) : FnOk P w K mg base CX0 1 a.f_shared_pairs a.d_shared_pairs ["first", "second"] (toSp K (nf a) 2 (S_shared_pairs a)) := by
  refine T.F_shared_pairs.ok sc_shared_pairs (fun vs H Q E h => h.1) (fun cdv A outer s H vs Q E hr h => ?_)
  have hN := sc_shared_pairs.nd
  have hu := hu_of hr
  have hu6 := hr.units
  have hu65 := u65 hr
  refine body_ok (td := td_shared_pairs K a) ?_ (by decide) (d_shared_pairs) h
  exact (ds_one (ds_ret (de_lc rfl hN (di_tup (dv 0)) (own := [("pair", 2)]) (show BlkOk ["first", "second", "pair"] (defScope s_shared_pairs) _ _ from ⟨rfl, by decide +kernel, by decide +kernel, by decide +kernel, by decide +kernel⟩) (fun s H C cl fp => (dg_name (i := 2) hN rfl (by first | exact Or.inl rfl | exact Or.inr rfl))) (fun s H C cl fp => (dts_one (dc_inX hu65 (dv 2) (dv 1)))) (fun s H C cl fp => (dv 2)))))
theorem ok_missing_pairs (T : Txt P K mg a) : FnOk P w K mg base CX0 1 a.f_missing_pairs a.d_missing_pairs ["first", "second"] (toSp K (nf a) 2 (S_missing_pairs a)) := by
  refine T.F_missing_pairs.ok sc_missing_pairs (fun vs H Q E h => h.1) (fun cdv A outer s H vs Q E hr h => ?_)
  have hN := sc_missing_pairs.nd
  have hu := hu_of hr
  have hu6 := hr.units
  have hu65 := u65 hr
  refine body_ok (td := td_missing_pairs K a) ?_ (by decide) (d_missing_pairs) h
  exact (ds_one (ds_ret (de_lc rfl hN (di_tup (dv 0)) (own := [("pair", 2)]) (show BlkOk ["first", "second", "pair"] (defScope s_missing_pairs) _ _ from ⟨rfl, by decide +kernel, by decide +kernel, by decide +kernel, by decide +kernel⟩) (fun s H C cl fp => (dg_name (i := 2) hN rfl (by first | exact Or.inl rfl | exact Or.inr rfl))) (fun s H C cl fp => (dts_one (dc_ninX hu65 (dv 2) (dv 1)))) (fun s H C cl fp => (dv 2)))))
theorem ok_Captures_or (T : Txt P K mg a) : FnOk P w K mg base (L2.CX P w) 7 a.f_Captures_or a.d_Captures_or ["self", "other"] (toSpXT K (nf a) 2 (opX a)) := bxU (by simp (disch := with_unfolding_all
  have G_Captures_init : FnOk P w K mg base (L2.CX P w) 5 a.f_Captures_init a.d_Captures_init ["self", "pairs"] (toSpXT K (nf a) 2 (S_Captures_initX K a)) := ok_Captures_init T
  have G_pairs_of : FnOk P w K mg base (L2.CX P w) 5 a.f_pairs_of a.d_pairs_of ["other"] (toSpXT K (nf a) 1 (S_in_orderX a)) := ok_pairs_of T
  have b_Captures_init := T.b_Captures_init
  have b_pairs_of := T.b_pairs_of
  refine T.F_Captures_or.okX sc_Captures_or (fun vs H Q E h => h.2.1) (fun cdv A outer s H vs Q E hr h => ?_)
  have hN := sc_Captures_or.nd
  have hu := hu_of hr
  have hu6 := hr.units
  refine body_okXT (td := fun xc => td_Captures_or K a xc) (fun A' xc tb lk => ?_) (by decide) (d_Captures_or) h
  exact (ds_one (ds_ret (de_makeXT tb T.mk_Captures G_Captures_init (hr.mono (by decide)) rfl T.g_Captures b_Captures_init .nil (fun _ => .nil) (takes_of rfl rfl rfl rfl) lk (dm_val (de_catT (de_fld (dv 0) T.c_Captures T.n_Captures_pairs) (de_callXT tb G_pairs_of (hr.mono (by decide)) rfl T.g_pairs_of T.k_pairs_of b_pairs_of .nil (fun _ => .nil) (takes_of rfl rfl rfl rfl) lk (dm_val (dv 1) dm_nil))) dm_nil))))) only [bxI])
theorem ok_Captures_ror (T : Txt P K mg a) : FnOk P w K mg base (L2.CX P w) 7 a.f_Captures_ror a.d_Captures_ror ["self", "other"] (toSpXT K (nf a) 2 (opX a)) := bxU (by simp (disch := with_unfolding_all
  have G_Captures_init : FnOk P w K mg base (L2.CX P w) 5 a.f_Captures_init a.d_Captures_init ["self", "pairs"] (toSpXT K (nf a) 2 (S_Captures_initX K a)) := ok_Captures_init T
  have G_pairs_of : FnOk P w K mg base (L2.CX P w) 5 a.f_pairs_of a.d_pairs_of ["other"] (toSpXT K (nf a) 1 (S_in_orderX a)) := ok_pairs_of T
  have b_Captures_init := T.b_Captures_init
  have b_pairs_of := T.b_pairs_of
  refine T.F_Captures_ror.okX sc_Captures_ror (fun vs H Q E h => h.2.1) (fun cdv A outer s H vs Q E hr h => ?_)
  have hN := sc_Captures_ror.nd
  have hu := hu_of hr
  have hu6 := hr.units
  refine body_okXT (td := fun xc => td_Captures_ror K a xc) (fun A' xc tb lk => ?_) (by decide) (d_Captures_ror) h
  exact (ds_one (ds_ret (de_makeXT tb T.mk_Captures G_Captures_init (hr.mono (by decide)) rfl T.g_Captures b_Captures_init .nil (fun _ => .nil) (takes_of rfl rfl rfl rfl) lk (dm_val (de_catT (de_callXT tb G_pairs_of (hr.mono (by decide)) rfl T.g_pairs_of T.k_pairs_of b_pairs_of .nil (fun _ => .nil) (takes_of rfl rfl rfl rfl) lk (dm_val (dv 1) dm_nil)) (de_fld (dv 0) T.c_Captures T.n_Captures_pairs)) dm_nil))))) only [bxI])
theorem ok_Captures_and (T : Txt P K mg a) : FnOk P w K mg base (L2.CX P w) 7 a.f_Captures_and a.d_Captures_and ["self", "other"] (toSpXT K (nf a) 2 (opX a)) := bxU (by simp (disch := with_unfolding_all
  have G_Captures_init : FnOk P w K mg base (L2.CX P w) 5 a.f_Captures_init a.d_Captures_init ["self", "pairs"] (toSpXT K (nf a) 2 (S_Captures_initX K a)) := ok_Captures_init T
  have G_pairs_of : FnOk P w K mg base (L2.CX P w) 5 a.f_pairs_of a.d_pairs_of ["other"] (toSpXT K (nf a) 1 (S_in_orderX a)) := ok_pairs_of T
  have G_shared_pairs : FnOk P w K mg base CX0 1 a.f_shared_pairs a.d_shared_pairs ["first", "second"] (toSp K (nf a) 2 (S_shared_pairs a)) := ok_shared_pairs T
  have b_Captures_init := T.b_Captures_init
  have b_pairs_of := T.b_pairs_of
  have b_shared_pairs := T.b_shared_pairs
  refine T.F_Captures_and.okX sc_Captures_and (fun vs H Q E h => h.2.1) (fun cdv A outer s H vs Q E hr h => ?_)
  have hN := sc_Captures_and.nd
  have hu := hu_of hr
  have hu6 := hr.units
  refine body_okXT (td := fun xc => td_Captures_and K a xc) (fun A' xc tb lk => ?_) (by decide) (d_Captures_and) h
  exact (ds_one (ds_ret (de_makeXT tb T.mk_Captures G_Captures_init (hr.mono (by decide)) rfl T.g_Captures b_Captures_init .nil (fun _ => .nil) (takes_of rfl rfl rfl rfl) lk (dm_val (de_call G_shared_pairs (hr.mono (by decide)) rfl T.g_shared_pairs T.k_shared_pairs b_shared_pairs .nil (fun _ => .nil) pass0 (dm_val (de_fld (dv 0) T.c_Captures T.n_Captures_pairs) (dm_val (de_callXT tb G_pairs_of (hr.mono (by decide)) rfl T.g_pairs_of T.k_pairs_of b_pairs_of .nil (fun _ => .nil) (takes_of rfl rfl rfl rfl) lk (dm_val (dv 1) dm_nil)) dm_nil))) dm_nil))))) only [bxI])
theorem ok_Captures_rand (T : Txt P K mg a) : FnOk P w K mg base (L2.CX P w) 7 a.f_Captures_rand a.d_Captures_rand ["self", "other"] (toSpXT K (nf a) 2 (opX a)) := bxU (by simp (disch := with_unfolding_all
  have G_Captures_init : FnOk P w K mg base (L2.CX P w) 5 a.f_Captures_init a.d_Captures_init ["self", "pairs"] (toSpXT K (nf a) 2 (S_Captures_initX K a)) := ok_Captures_init T
  have G_pairs_of : FnOk P w K mg base (L2.CX P w) 5 a.f_pairs_of a.d_pairs_of ["other"] (toSpXT K (nf a) 1 (S_in_orderX a)) := ok_pairs_of T
  have G_shared_pairs : FnOk P w K mg base CX0 1 a.f_shared_pairs a.d_shared_pairs ["first", "second"] (toSp K (nf a) 2 (S_shared_pairs a)) := ok_shared_pairs T
  have b_Captures_init := T.b_Captures_init
  have b_pairs_of := T.b_pairs_of
  have b_shared_pairs := T.b_shared_pairs
  refine T.F_Captures_rand.okX sc_Captures_rand (fun vs H Q E h => h.2.1) (fun cdv A outer s H vs Q E hr h => ?_)
  have hN := sc_Captures_rand.nd
  have hu := hu_of hr
  have hu6 := hr.units
  refine body_okXT (td := fun xc => td_Captures_rand K a xc) (fun A' xc tb lk => ?_) (by decide) (d_Captures_rand) h
  exact (ds_one (ds_ret (de_makeXT tb T.mk_Captures G_Captures_init (hr.mono (by decide)) rfl T.g_Captures b_Captures_init .nil (fun _ => .nil) (takes_of rfl rfl rfl rfl) lk (dm_val (de_call G_shared_pairs (hr.mono (by decide)) rfl T.g_shared_pairs T.k_shared_pairs b_shared_pairs .nil (fun _ => .nil) pass0 (dm_val (de_fld (dv 0) T.c_Captures T.n_Captures_pairs) (dm_val (de_callXT tb G_pairs_of (hr.mono (by decide)) rfl T.g_pairs_of T.k_pairs_of b_pairs_of .nil (fun _ => .nil) (takes_of rfl rfl rfl rfl) lk (dm_val (dv 1) dm_nil)) dm_nil))) dm_nil))))) only [bxI])
theorem ok_Captures_sub (T : Txt P K mg a) : FnOk P w K mg base (L2.CX P w) 7 a.f_Captures_sub a.d_Captures_sub ["self", "other"] (toSpXT K (nf a) 2 (opX a)) := bxU (by simp (disch := with_unfolding_all
  have G_Captures_init : FnOk P w K mg base (L2.CX P w) 5 a.f_Captures_init a.d_Captures_init ["self", "pairs"] (toSpXT K (nf a) 2 (S_Captures_initX K a)) := ok_Captures_init T
  have G_missing_pairs : FnOk P w K mg base CX0 1 a.f_missing_pairs a.d_missing_pairs ["first", "second"] (toSp K (nf a) 2 (S_missing_pairs a)) := ok_missing_pairs T
  have G_pairs_of : FnOk P w K mg base (L2.CX P w) 5 a.f_pairs_of a.d_pairs_of ["other"] (toSpXT K (nf a) 1 (S_in_orderX a)) := ok_pairs_of T
  have b_Captures_init := T.b_Captures_init
  have b_missing_pairs := T.b_missing_pairs
  have b_pairs_of := T.b_pairs_of
  refine T.F_Captures_sub.okX sc_Captures_sub (fun vs H Q E h => h.2.1) (fun cdv A outer s H vs Q E hr h => ?_)
  have hN := sc_Captures_sub.nd
  have hu := hu_of hr
  have hu6 := hr.units
  refine body_okXT (td := fun xc => td_Captures_sub K a xc) (fun A' xc tb lk => ?_) (by decide) (d_Captures_sub) h
  exact (ds_one (ds_ret (de_makeXT tb T.mk_Captures G_Captures_init (hr.mono (by decide)) rfl T.g_Captures b_Captures_init .nil (fun _ => .nil) (takes_of rfl rfl rfl rfl) lk (dm_val (de_call G_missing_pairs (hr.mono (by decide)) rfl T.g_missing_pairs T.k_missing_pairs b_missing_pairs .nil (fun _ => .nil) pass0 (dm_val (de_fld (dv 0) T.c_Captures T.n_Captures_pairs) (dm_val (de_callXT tb G_pairs_of (hr.mono (by decide)) rfl T.g_pairs_of T.k_pairs_of b_pairs_of .nil (fun _ => .nil) (takes_of rfl rfl rfl rfl) lk (dm_val (dv 1) dm_nil)) dm_nil))) dm_nil))))) only [bxI])
theorem ok_Captures_rsub (T : Txt P K mg a) : FnOk P w K mg base (L2.CX P w) 7 a.f_Captures_rsub a.d_Captures_rsub ["self", "other"] (toSpXT K (nf a) 2 (opX a)) := bxU (by simp (disch := with_unfolding_all
  have G_Captures_init : FnOk P w K mg base (L2.CX P w) 5 a.f_Captures_init a.d_Captures_init ["self", "pairs"] (toSpXT K (nf a) 2 (S_Captures_initX K a)) := ok_Captures_init T
  have G_missing_pairs : FnOk P w K mg base CX0 1 a.f_missing_pairs a.d_missing_pairs ["first", "second"] (toSp K (nf a) 2 (S_missing_pairs a)) := ok_missing_pairs T
  have G_pairs_of : FnOk P w K mg base (L2.CX P w) 5 a.f_pairs_of a.d_pairs_of ["other"] (toSpXT K (nf a) 1 (S_in_orderX a)) := ok_pairs_of T
  have b_Captures_init := T.b_Captures_init
  have b_missing_pairs := T.b_missing_pairs
  have b_pairs_of := T.b_pairs_of
  refine T.F_Captures_rsub.okX sc_Captures_rsub (fun vs H Q E h => h.2.1) (fun cdv A outer s H vs Q E hr h => ?_)
  have hN := sc_Captures_rsub.nd
  have hu := hu_of hr
  have hu6 := hr.units
  refine body_okXT (td := fun xc => td_Captures_rsub K a xc) (fun A' xc tb lk => ?_) (by decide) (d_Captures_rsub) h
  exact (ds_one (ds_ret (de_makeXT tb T.mk_Captures G_Captures_init (hr.mono (by decide)) rfl T.g_Captures b_Captures_init .nil (fun _ => .nil) (takes_of rfl rfl rfl rfl) lk (dm_val (de_call G_missing_pairs (hr.mono (by decide)) rfl T.g_missing_pairs T.k_missing_pairs b_missing_pairs .nil (fun _ => .nil) pass0 (dm_val (de_callXT tb G_pairs_of (hr.mono (by decide)) rfl T.g_pairs_of T.k_pairs_of b_pairs_of .nil (fun _ => .nil) (takes_of rfl rfl rfl rfl) lk (dm_val (dv 1) dm_nil)) (dm_val (de_fld (dv 0) T.c_Captures T.n_Captures_pairs) dm_nil))) dm_nil))))) only [bxI])
theorem ok_Captures_xor (T : Txt P K mg a) : FnOk P w K mg base (L2.CX P w) 7 a.f_Captures_xor a.d_Captures_xor ["self", "other"] (toSpXT K (nf a) 2 (opX a)) := bxU (by simp (disch := with_unfolding_all
  have G_Captures_init : FnOk P w K mg base (L2.CX P w) 5 a.f_Captures_init a.d_Captures_init ["self", "pairs"] (toSpXT K (nf a) 2 (S_Captures_initX K a)) := ok_Captures_init T
  have G_missing_pairs : FnOk P w K mg base CX0 1 a.f_missing_pairs a.d_missing_pairs ["first", "second"] (toSp K (nf a) 2 (S_missing_pairs a)) := ok_missing_pairs T
  have G_pairs_of : FnOk P w K mg base (L2.CX P w) 5 a.f_pairs_of a.d_pairs_of ["other"] (toSpXT K (nf a) 1 (S_in_orderX a)) := ok_pairs_of T
  have b_Captures_init := T.b_Captures_init
  have b_missing_pairs := T.b_missing_pairs
  have b_pairs_of := T.b_pairs_of
  refine T.F_Captures_xor.okX sc_Captures_xor (fun vs H Q E h => h.2.1) (fun cdv A outer s H vs Q E hr h => ?_)
  have hN := sc_Captures_xor.nd
  have hu := hu_of hr
  have hu6 := hr.units
  refine body_okXT (td := fun xc => td_Captures_xor K a xc) (fun A' xc tb lk => ?_) (by decide) (d_Captures_xor) h
  exact (ds_cons (ds_set (i := 2) hN rfl (by first | exact Or.inl rfl | exact Or.inr rfl) (de_callXT tb G_pairs_of (hr.mono (by decide)) rfl T.g_pairs_of T.k_pairs_of b_pairs_of .nil (fun _ => .nil) (takes_of rfl rfl rfl rfl) lk (dm_val (dv 1) dm_nil)))
      (ds_one (ds_ret (de_makeXT tb T.mk_Captures G_Captures_init (hr.mono (by decide)) rfl T.g_Captures b_Captures_init .nil (fun _ => .nil) (takes_of rfl rfl rfl rfl) lk (dm_val (de_addG (de_call G_missing_pairs (hr.mono (by decide)) rfl T.g_missing_pairs T.k_missing_pairs b_missing_pairs .nil (fun _ => .nil) pass0 (dm_val (de_fld (dv 0) T.c_Captures T.n_Captures_pairs) (dm_val (dv 2) dm_nil))) (de_call G_missing_pairs (hr.mono (by decide)) rfl T.g_missing_pairs T.k_missing_pairs b_missing_pairs .nil (fun _ => .nil) pass0 (dm_val (dv 2) (dm_val (de_fld (dv 0) T.c_Captures T.n_Captures_pairs) dm_nil)))) dm_nil)))))) only [bxI])
theorem ok_Captures_rxor (T : Txt P K mg a) : FnOk P w K mg base (L2.CX P w) 7 a.f_Captures_rxor a.d_Captures_rxor ["self", "other"] (toSpXT K (nf a) 2 (opX a)) := bxU (by simp (disch := with_unfolding_all
  have G_Captures_init : FnOk P w K mg base (L2.CX P w) 5 a.f_Captures_init a.d_Captures_init ["self", "pairs"] (toSpXT K (nf a) 2 (S_Captures_initX K a)) := ok_Captures_init T
  have G_missing_pairs : FnOk P w K mg base CX0 1 a.f_missing_pairs a.d_missing_pairs ["first", "second"] (toSp K (nf a) 2 (S_missing_pairs a)) := ok_missing_pairs T
  have G_pairs_of : FnOk P w K mg base (L2.CX P w) 5 a.f_pairs_of a.d_pairs_of ["other"] (toSpXT K (nf a) 1 (S_in_orderX a)) := ok_pairs_of T
  have b_Captures_init := T.b_Captures_init
  have b_missing_pairs := T.b_missing_pairs
  have b_pairs_of := T.b_pairs_of
  refine T.F_Captures_rxor.okX sc_Captures_rxor (fun vs H Q E h => h.2.1) (fun cdv A outer s H vs Q E hr h => ?_)
  have hN := sc_Captures_rxor.nd
  have hu := hu_of hr
  have hu6 := hr.units
  refine body_okXT (td := fun xc => td_Captures_rxor K a xc) (fun A' xc tb lk => ?_) (by decide) (d_Captures_rxor) h
  exact (ds_cons (ds_set (i := 2) hN rfl (by first | exact Or.inl rfl | exact Or.inr rfl) (de_callXT tb G_pairs_of (hr.mono (by decide)) rfl T.g_pairs_of T.k_pairs_of b_pairs_of .nil (fun _ => .nil) (takes_of rfl rfl rfl rfl) lk (dm_val (dv 1) dm_nil)))
      (ds_one (ds_ret (de_makeXT tb T.mk_Captures G_Captures_init (hr.mono (by decide)) rfl T.g_Captures b_Captures_init .nil (fun _ => .nil) (takes_of rfl rfl rfl rfl) lk (dm_val (de_addG (de_call G_missing_pairs (hr.mono (by decide)) rfl T.g_missing_pairs T.k_missing_pairs b_missing_pairs .nil (fun _ => .nil) pass0 (dm_val (de_fld (dv 0) T.c_Captures T.n_Captures_pairs) (dm_val (dv 2) dm_nil))) (de_call G_missing_pairs (hr.mono (by decide)) rfl T.g_missing_pairs T.k_missing_pairs b_missing_pairs .nil (fun _ => .nil) pass0 (dm_val (dv 2) (dm_val (de_fld (dv 0) T.c_Captures T.n_Captures_pairs) dm_nil)))) dm_nil)))))) only [bxI])
theorem ok_law_tape (T : Txt P K mg a) : FnOk P w K mg base CX0 1 a.f_law_tape a.d_law_tape ["_law_script", "_law_k"] (toSpO K (nf a) 2 (S_law_tape K a)) := by
  refine T.F_law_tape.ok sc_law_tape (fun vs H Q E h => h.1) (fun cdv A outer s H vs Q E hr h => ?_)
  have hN := sc_law_tape.nd
  have hu := hu_of hr
  have hu6 := hr.units
  refine body_okO (td := td_law_tape K a) ?_ (by decide) (d_law_tape) h
  exact (ds_cons (ds_set (i := 2) hN rfl (by first | exact Or.inl rfl | exact Or.inr rfl) de_int)
      (ds_cons (ds_if (dc_lt (dv 1) (de_cb call_len_seq cd_lenR rfl T.z_len boot_len (da_cons (dv 0) da_nil))) (ds_one (ds_set (i := 2) hN rfl (by first | exact Or.inl rfl | exact Or.inr rfl) (de_ct call_int1 cd_int rfl T.z_int (by decide +kernel) (da_cons (de_ixR (dv 0) (dv 1)) da_nil)))) ds_nil)
      (ds_one (ds_retL (da_cons (dv 2) (da_cons de_int (da_cons (de_ct call_int1 cd_int rfl T.z_int (by decide +kernel) (da_cons (de_chain op_le op_lt de_int (dv 2) (de_pow de_int de_int)) da_nil)) (da_cons (dv 1) da_nil))))))))
theorem ok_law_draw (T : Txt P K mg a) : FnOk P w K mg base CX0 1 a.f_law_draw a.d_law_draw ["_law_tape_here", "_law_many"] (toSp K (nf a) 2 (S_law_draw K a)) := by
  refine T.F_law_draw.ok sc_law_draw (fun vs H Q E h => h.1) (fun cdv A outer s H vs Q E hr h => ?_)
  have hN := sc_law_draw.nd
  have hu := hu_of hr
  have hu6 := hr.units
  refine body_ok (td := td_law_draw K a) ?_ (by decide) (d_law_draw) h
  exact (ds_cons (ds_laug (pv 0) de_int)
      (ds_cons (ds_if (dc_eqG hu6 (de_ixV (pv 0) de_int) de_int) (ds_cons (ds_set (i := 2) hN rfl (by first | exact Or.inl rfl | exact Or.inr rfl) (de_mod (de_ct call_int1 cd_int rfl T.z_int (by decide +kernel) (da_cons (de_ixV (pv 0) de_int) da_nil)) (dv 1)))
      (ds_cons (ds_lput (pv 0) de_int (de_div (de_ct call_int1 cd_int rfl T.z_int (by decide +kernel) (da_cons (de_ixV (pv 0) de_int) da_nil)) (dv 1)))
      (ds_one (ds_ret (dv 2))))) ds_nil)
      (ds_cons (ds_set (i := 3) hN rfl (by first | exact Or.inl rfl | exact Or.inr rfl) (de_ixG hu (de_lst (da_cons de_int (da_cons de_int (da_cons de_int (da_cons de_int (da_cons de_int da_nil)))))) (de_mod (de_ct call_int1 cd_int rfl T.z_int (by decide +kernel) (da_cons (de_ixV (pv 0) de_int) da_nil)) de_int)))
      (ds_cons (ds_set (i := 4) hN rfl (by first | exact Or.inl rfl | exact Or.inr rfl) (de_addG (de_ixV (pv 0) de_int) (de_mul (de_ixV (pv 0) de_int) de_int)))
      (ds_cons (ds_set (i := 5) hN rfl (by first | exact Or.inl rfl | exact Or.inr rfl) (de_mod (de_ct call_int1 cd_int rfl T.z_int (by decide +kernel) (da_cons (de_pow (de_addG (de_addG (dv 4) (de_mul (de_ixV (pv 0) de_int) de_int)) de_int) de_int) da_nil)) (dv 3)))
      (ds_one (ds_ret (de_mod (de_ct call_int1 cd_int rfl T.z_int (by decide +kernel) (da_cons (de_div (dv 5) de_int) da_nil)) (dv 1)))))))))
theorem ok_law_kept (T : Txt P K mg a) : FnOk P w K mg base CX0 1 a.f_law_kept a.d_law_kept [] (toSp K (nf a) 0 (S_law_kept a)) := bxU (by simp (disch := with_unfolding_all
  refine T.F_law_kept.ok sc_law_kept (fun vs H Q E h => h.1) (fun cdv A outer s H vs Q E hr h => ?_)
  have hN := sc_law_kept.nd
  have hu := hu_of hr
  have hu6 := hr.units
  refine body_ok (td := td_law_kept K a) ?_ (by decide) (d_law_kept) h
  exact (ds_cons (ds_set (i := 0) hN rfl (by first | exact Or.inl rfl | exact Or.inr rfl) de_str)
      (ds_one (ds_ret (de_split (de_addG (dv 0) de_str) de_str))))) only [bxI])
theorem ok_law_signs (T : Txt P K mg a) : FnOk P w K mg base CX0 1 a.f_law_signs a.d_law_signs [] (toSp K (nf a) 0 (S_law_signs a)) := bxU (by simp (disch := with_unfolding_all
  refine T.F_law_signs.ok sc_law_signs (fun vs H Q E h => h.1) (fun cdv A outer s H vs Q E hr h => ?_)
  have hN := sc_law_signs.nd
  have hu := hu_of hr
  have hu6 := hr.units
  refine body_ok (td := td_law_signs K a) ?_ (by decide) (d_law_signs) h
  exact (ds_one (ds_ret de_str))) only [bxI])
theorem ok_law_spelled (T : Txt P K mg a) : FnOk P w K mg base CX0 2 a.f_law_spelled a.d_law_spelled ["_law_tape_here", "_law_used"] (toSp K (nf a) 2 (S_law_spelled K a)) := bxU (by simp (disch := with_unfolding_all
  have G_law_draw : FnOk P w K mg base CX0 1 a.f_law_draw a.d_law_draw ["_law_tape_here", "_law_many"] (toSp K (nf a) 2 (S_law_draw K a)) := ok_law_draw T
  have G_law_kept : FnOk P w K mg base CX0 1 a.f_law_kept a.d_law_kept [] (toSp K (nf a) 0 (S_law_kept a)) := ok_law_kept T
  have G_law_signs : FnOk P w K mg base CX0 1 a.f_law_signs a.d_law_signs [] (toSp K (nf a) 0 (S_law_signs a)) := ok_law_signs T
  have b_law_draw := T.b_law_draw
  have b_law_kept := T.b_law_kept
  have b_law_signs := T.b_law_signs
  refine T.F_law_spelled.ok sc_law_spelled (fun vs H Q E h => h.1) (fun cdv A outer s H vs Q E hr h => ?_)
  have hN := sc_law_spelled.nd
  have hu := hu_of hr
  have hu6 := hr.units
  refine body_ok (td := td_law_spelled K a) ?_ (by decide) (d_law_spelled) h
  exact (ds_cons (ds_set (i := 2) hN rfl (by first | exact Or.inl rfl | exact Or.inr rfl) (de_call G_law_draw (hr.mono (by decide)) rfl T.g_law_draw T.k_law_draw b_law_draw .nil (fun _ => .nil) pass0 (dm_slot (pv 0) (dm_val de_int dm_nil))))
      (ds_cons (ds_set (i := 3) hN rfl (by first | exact Or.inl rfl | exact Or.inr rfl) (de_addG de_int (de_call G_law_draw (hr.mono (by decide)) rfl T.g_law_draw T.k_law_draw b_law_draw .nil (fun _ => .nil) pass0 (dm_slot (pv 0) (dm_val de_int dm_nil)))))
      (ds_cons (ds_if (dc_eqG hu6 (dv 2) de_int) (ds_one (ds_set (i := 3) hN rfl (by first | exact Or.inl rfl | exact Or.inr rfl) de_int)) ds_nil)
      (ds_cons (ds_if (dc_eqG hu6 (dv 2) de_int) (ds_one (ds_ret (de_addG (de_ixG hu (de_call0 G_law_kept (hr.mono (by decide)) rfl T.g_law_kept T.k_law_kept b_law_kept .nil (fun _ => .nil) pass0) (de_call G_law_draw (hr.mono (by decide)) rfl T.g_law_draw T.k_law_draw b_law_draw .nil (fun _ => .nil) pass0 (dm_slot (pv 0) (dm_val de_int dm_nil)))) (de_ixG hu (de_call0 G_law_signs (hr.mono (by decide)) rfl T.g_law_signs T.k_law_signs b_law_signs .nil (fun _ => .nil) pass0) (de_call G_law_draw (hr.mono (by decide)) rfl T.g_law_draw T.k_law_draw b_law_draw .nil (fun _ => .nil) pass0 (dm_slot (pv 0) (dm_val de_int dm_nil))))))) ds_nil)
      (ds_cons (ds_if (DW.dc (dw_and (dc_eqG hu6 (dv 2) de_int) (dw_and1 (dc_neG hu6 (dv 1) (de_lst da_nil))))) (ds_cons (ds_set (i := 4) hN rfl (by first | exact Or.inl rfl | exact Or.inr rfl) (de_ixG hu (dv 1) (de_call G_law_draw (hr.mono (by decide)) rfl T.g_law_draw T.k_law_draw b_law_draw .nil (fun _ => .nil) pass0 (dm_slot (pv 0) (dm_val (de_cb call_lenG cd_lenG rfl T.z_len boot_len (da_cons (dv 1) da_nil)) dm_nil)))))
      (ds_cons (ds_set (i := 5) hN rfl (by first | exact Or.inl rfl | exact Or.inr rfl) (de_call G_law_draw (hr.mono (by decide)) rfl T.g_law_draw T.k_law_draw b_law_draw .nil (fun _ => .nil) pass0 (dm_slot (pv 0) (dm_val (de_cb call_lenG cd_lenG rfl T.z_len boot_len (da_cons (dv 4) da_nil)) dm_nil))))
      (ds_one (ds_ret (de_addG (de_addG (de_slS (dv 4) do_none (do_some (dv 5))) (de_ixG hu (de_call0 G_law_signs (hr.mono (by decide)) rfl T.g_law_signs T.k_law_signs b_law_signs .nil (fun _ => .nil) pass0) (de_call G_law_draw (hr.mono (by decide)) rfl T.g_law_draw T.k_law_draw b_law_draw .nil (fun _ => .nil) pass0 (dm_slot (pv 0) (dm_val de_int dm_nil))))) (de_slS (dv 4) (do_some (de_addG (dv 5) de_int)) do_none)))))) ds_nil)
      (ds_cons (ds_set (i := 4) hN rfl (by first | exact Or.inl rfl | exact Or.inr rfl) (de_ixG hu (de_call0 G_law_signs (hr.mono (by decide)) rfl T.g_law_signs T.k_law_signs b_law_signs .nil (fun _ => .nil) pass0) (de_call G_law_draw (hr.mono (by decide)) rfl T.g_law_draw T.k_law_draw b_law_draw .nil (fun _ => .nil) pass0 (dm_slot (pv 0) (dm_val de_int dm_nil)))))
      (ds_cons (ds_for PassesOwn.never rfl (di_range1 rfl T.z_range (da_cons (de_sub (dv 3) de_int) da_nil)) (dg_name (i := 5) hN rfl (by first | exact Or.inl rfl | exact Or.inr rfl)) (ds_one (ds_set (i := 4) hN rfl (by first | exact Or.inl rfl | exact Or.inr rfl) (de_addG (dv 4) (de_ixG hu (de_call0 G_law_signs (hr.mono (by decide)) rfl T.g_law_signs T.k_law_signs b_law_signs .nil (fun _ => .nil) pass0) (de_call G_law_draw (hr.mono (by decide)) rfl T.g_law_draw T.k_law_draw b_law_draw .nil (fun _ => .nil) pass0 (dm_slot (pv 0) (dm_val de_int dm_nil))))))))
      (ds_one (ds_ret (dv 4))))))))))) only [bxI])
theorem ok_law_ident (T : Txt P K mg a) : FnOk P w K mg base CX0 3 a.f_law_ident a.d_law_ident ["_law_tape_here", "_law_used"] (toSp K (nf a) 2 (S_law_ident K a)) := by
  have G_law_kept : FnOk P w K mg base CX0 1 a.f_law_kept a.d_law_kept [] (toSp K (nf a) 0 (S_law_kept a)) := ok_law_kept T
  have G_law_spelled : FnOk P w K mg base CX0 2 a.f_law_spelled a.d_law_spelled ["_law_tape_here", "_law_used"] (toSp K (nf a) 2 (S_law_spelled K a)) := ok_law_spelled T
  have b_law_kept := T.b_law_kept
  have b_law_spelled := T.b_law_spelled
  refine T.F_law_ident.ok sc_law_ident (fun vs H Q E h => h.1) (fun cdv A outer s H vs Q E hr h => ?_)
  have hN := sc_law_ident.nd
  have hu := hu_of hr
  have hu6 := hr.units
  refine body_ok (td := td_law_ident K a) ?_ (by decide) (d_law_ident) h
  exact (ds_cons (ds_set (i := 2) hN rfl (by first | exact Or.inl rfl | exact Or.inr rfl) (de_call G_law_spelled (hr.mono (by decide)) rfl T.g_law_spelled T.k_law_spelled b_law_spelled .nil (fun _ => .nil) pass0 (dm_slot (pv 0) (dm_val (dv 1) dm_nil))))
      (ds_cons (ds_if (DW.dc (dw_and (dc_ninG hu (dv 2) (dv 1)) (dw_and1 (dc_ninG hu (dv 2) (de_call0 G_law_kept (hr.mono (by decide)) rfl T.g_law_kept T.k_law_kept b_law_kept .nil (fun _ => .nil) pass0))))) (ds_one (ds_ret (dv 2))) ds_nil)
      (ds_cons (ds_for PassesOwn.never rfl (di_range1 rfl T.z_range (da_cons (de_addG (de_cb call_lenG cd_lenG rfl T.z_len boot_len (da_cons (dv 1) da_nil)) de_int) da_nil)) (dg_name (i := 3) hN rfl (by first | exact Or.inl rfl | exact Or.inr rfl)) (ds_one (ds_if (dc_ninG hu (de_addG (de_slS (dv 2) do_none (do_some de_int)) (de_ct call_str_int cd_strI rfl T.z_str (by decide +kernel) (da_cons (dv 3) da_nil))) (dv 1)) (ds_one (ds_ret (de_addG (de_slS (dv 2) do_none (do_some de_int)) (de_ct call_str_int cd_strI rfl T.z_str (by decide +kernel) (da_cons (dv 3) da_nil))))) ds_nil)))
      (ds_one (ds_ret (dv 2))))))
theorem ok_law_number (T : Txt P K mg a) : FnOk P w K mg base CX0 2 a.f_law_number a.d_law_number ["_law_tape_here"] (toSp K (nf a) 1 (S_law_number K a)) := bxU (by simp (disch := with_unfolding_all
  have G_law_draw : FnOk P w K mg base CX0 1 a.f_law_draw a.d_law_draw ["_law_tape_here", "_law_many"] (toSp K (nf a) 2 (S_law_draw K a)) := ok_law_draw T
  have b_law_draw := T.b_law_draw
  refine T.F_law_number.ok sc_law_number (fun vs H Q E h => h.1) (fun cdv A outer s H vs Q E hr h => ?_)
  have hN := sc_law_number.nd
  have hu := hu_of hr
  have hu6 := hr.units
  refine body_ok (td := td_law_number K a) ?_ (by decide) (d_law_number) h
  exact (ds_cons (ds_if (dc_eqG hu6 (de_call G_law_draw (hr.mono (by decide)) rfl T.g_law_draw T.k_law_draw b_law_draw .nil (fun _ => .nil) pass0 (dm_slot (pv 0) (dm_val de_int dm_nil))) de_int) (ds_one (ds_ret (de_call G_law_draw (hr.mono (by decide)) rfl T.g_law_draw T.k_law_draw b_law_draw .nil (fun _ => .nil) pass0 (dm_slot (pv 0) (dm_val (de_pow de_int de_int) dm_nil))))) ds_nil)
      (ds_one (ds_ret (de_call G_law_draw (hr.mono (by decide)) rfl T.g_law_draw T.k_law_draw b_law_draw .nil (fun _ => .nil) pass0 (dm_slot (pv 0) (dm_val de_int dm_nil))))))) only [bxI])
theorem ok_law_ascending (T : Txt P K mg a) : FnOk P w K mg base CX0 1 a.f_law_ascending a.d_law_ascending ["_law_pairs_here"] (toSp K (nf a) 1 (S_law_ascending a)) := bxU (by simp (disch := with_unfolding_all
  refine T.F_law_ascending.ok sc_law_ascending (fun vs H Q E h => h.1) (fun cdv A outer s H vs Q E hr h => ?_)
  have hN := sc_law_ascending.nd
  have hu := hu_of hr
  have hu6 := hr.units
  have hu65 := u65 hr
  refine body_ok (td := td_law_ascending K a) ?_ (by decide) (d_law_ascending) h
  exact (ds_cons (ds_setL (i := 1) hN rfl (by first | exact Or.inl rfl | exact Or.inr rfl) da_nil)
      (ds_cons (ds_for PassesOwn.never rfl (di_list (dv 0)) (dg_name (i := 2) hN rfl (by first | exact Or.inl rfl | exact Or.inr rfl)) (ds_one (ds_if (dc_ninXV hu65 (dv 2) (pv 1)) (ds_one (ds_app (pv 1) (dv 2))) ds_nil)))
      (ds_one (ds_ret (de_sortM rfl T.z_sorted (da_cons (de_varF (pv 1)) da_nil))))))) only [bxI])
theorem ok_law_bad_number (T : Txt P K mg a) : FnOk P w K mg base CX0 2 a.f_law_bad_number a.d_law_bad_number ["_law_tape_here"] (toSp K (nf a) 1 (S_law_bad_number K a)) := bxU (by simp (disch := with_unfolding_all
  have G_law_draw : FnOk P w K mg base CX0 1 a.f_law_draw a.d_law_draw ["_law_tape_here", "_law_many"] (toSp K (nf a) 2 (S_law_draw K a)) := ok_law_draw T
  have b_law_draw := T.b_law_draw
  refine T.F_law_bad_number.ok sc_law_bad_number (fun vs H Q E h => h.1) (fun cdv A outer s H vs Q E hr h => ?_)
  have hN := sc_law_bad_number.nd
  have hu := hu_of hr
  have hu6 := hr.units
  refine body_ok (td := td_law_bad_number K a) ?_ (by decide) (d_law_bad_number) h
  exact (ds_cons (ds_set (i := 1) hN rfl (by first | exact Or.inl rfl | exact Or.inr rfl) (de_addG (de_pow de_int de_int) (de_call G_law_draw (hr.mono (by decide)) rfl T.g_law_draw T.k_law_draw b_law_draw .nil (fun _ => .nil) pass0 (dm_slot (pv 0) (dm_val de_int dm_nil)))))
      (ds_one (ds_ret (de_ixG hu (de_lst (da_cons (de_sub (de_neg de_int) (de_call G_law_draw (hr.mono (by decide)) rfl T.g_law_draw T.k_law_draw b_law_draw .nil (fun _ => .nil) pass0 (dm_slot (pv 0) (dm_val de_int dm_nil)))) (da_cons de_bl (da_cons de_bl (da_cons de_str (da_cons de_non (da_cons (de_tup (da_cons de_int da_nil)) (da_cons (dv 1) da_nil)))))))) (de_call G_law_draw (hr.mono (by decide)) rfl T.g_law_draw T.k_law_draw b_law_draw .nil (fun _ => .nil) pass0 (dm_slot (pv 0) (dm_val de_int dm_nil)))))))) only [bxI])
theorem ok_law_bad_ident (T : Txt P K mg a) : FnOk P w K mg base CX0 4 a.f_law_bad_ident a.d_law_bad_ident ["_law_tape_here"] (toSp K (nf a) 1 (S_law_bad_ident K a)) := bxU (by simp (disch := with_unfolding_all
  have G_law_draw : FnOk P w K mg base CX0 1 a.f_law_draw a.d_law_draw ["_law_tape_here", "_law_many"] (toSp K (nf a) 2 (S_law_draw K a)) := ok_law_draw T
  have G_law_ident : FnOk P w K mg base CX0 3 a.f_law_ident a.d_law_ident ["_law_tape_here", "_law_used"] (toSp K (nf a) 2 (S_law_ident K a)) := ok_law_ident T
  have G_law_kept : FnOk P w K mg base CX0 1 a.f_law_kept a.d_law_kept [] (toSp K (nf a) 0 (S_law_kept a)) := ok_law_kept T
  have b_law_draw := T.b_law_draw
  have b_law_ident := T.b_law_ident
  have b_law_kept := T.b_law_kept
  refine T.F_law_bad_ident.ok sc_law_bad_ident (fun vs H Q E h => h.1) (fun cdv A outer s H vs Q E hr h => ?_)
  have hN := sc_law_bad_ident.nd
  have hu := hu_of hr
  have hu6 := hr.units
  refine body_ok (td := td_law_bad_ident K a) ?_ (by decide) (d_law_bad_ident) h
  exact (ds_cons (ds_set (i := 1) hN rfl (by first | exact Or.inl rfl | exact Or.inr rfl) (de_call G_law_ident (hr.mono (by decide)) rfl T.g_law_ident T.k_law_ident b_law_ident .nil (fun _ => .nil) pass0 (dm_slot (pv 0) (dm_val (de_lst da_nil) dm_nil))))
      (ds_cons (ds_set (i := 2) hN rfl (by first | exact Or.inl rfl | exact Or.inr rfl) (de_call G_law_draw (hr.mono (by decide)) rfl T.g_law_draw T.k_law_draw b_law_draw .nil (fun _ => .nil) pass0 (dm_slot (pv 0) (dm_val (de_cb call_lenG cd_lenG rfl T.z_len boot_len (da_cons (dv 1) da_nil)) dm_nil))))
      (ds_cons (ds_set (i := 3) hN rfl (by first | exact Or.inl rfl | exact Or.inr rfl) (de_ixG hu de_str (de_call G_law_draw (hr.mono (by decide)) rfl T.g_law_draw T.k_law_draw b_law_draw .nil (fun _ => .nil) pass0 (dm_slot (pv 0) (dm_val de_int dm_nil)))))
      (ds_cons (ds_set (i := 4) hN rfl (by first | exact Or.inl rfl | exact Or.inr rfl) (de_addG (de_addG (de_slS (dv 1) do_none (do_some (dv 2))) (dv 3)) (de_slS (dv 1) (do_some (de_addG (dv 2) de_int)) do_none)))
      (ds_cons (ds_set (i := 5) hN rfl (by first | exact Or.inl rfl | exact Or.inr rfl) (de_addG (de_ixG hu de_str (de_call G_law_draw (hr.mono (by decide)) rfl T.g_law_draw T.k_law_draw b_law_draw .nil (fun _ => .nil) pass0 (dm_slot (pv 0) (dm_val de_int dm_nil)))) (de_slS (dv 1) do_none (do_some de_int))))
      (ds_cons (ds_set (i := 6) hN rfl (by first | exact Or.inl rfl | exact Or.inr rfl) (de_addG (de_addG (dv 1) (de_slS de_str (do_some (de_cb call_lenG cd_lenG rfl T.z_len boot_len (da_cons (dv 1) da_nil))) do_none)) (dv 1)))
      (ds_cons (ds_set (i := 7) hN rfl (by first | exact Or.inl rfl | exact Or.inr rfl) (de_ixG hu (de_call0 G_law_kept (hr.mono (by decide)) rfl T.g_law_kept T.k_law_kept b_law_kept .nil (fun _ => .nil) pass0) (de_call G_law_draw (hr.mono (by decide)) rfl T.g_law_draw T.k_law_draw b_law_draw .nil (fun _ => .nil) pass0 (dm_slot (pv 0) (dm_val de_int dm_nil)))))
      (ds_one (ds_ret (de_ixG hu (de_lst (da_cons (dv 7) (da_cons de_str (da_cons (dv 4) (da_cons (dv 5) (da_cons (dv 6) (da_cons de_int (da_cons de_non da_nil)))))))) (de_call G_law_draw (hr.mono (by decide)) rfl T.g_law_draw T.k_law_draw b_law_draw .nil (fun _ => .nil) pass0 (dm_slot (pv 0) (dm_val de_int dm_nil)))))))))))))) only [bxI])
theorem ok_law_item (T : Txt P K mg a) : FnOk P w K mg base CX0 5 a.f_law_item a.d_law_item ["_law_tape_here"] (toSp K (nf a) 1 (S_law_item K a)) := by
  have G_law_bad_ident : FnOk P w K mg base CX0 4 a.f_law_bad_ident a.d_law_bad_ident ["_law_tape_here"] (toSp K (nf a) 1 (S_law_bad_ident K a)) := ok_law_bad_ident T
  have G_law_bad_number : FnOk P w K mg base CX0 2 a.f_law_bad_number a.d_law_bad_number ["_law_tape_here"] (toSp K (nf a) 1 (S_law_bad_number K a)) := ok_law_bad_number T
  have G_law_draw : FnOk P w K mg base CX0 1 a.f_law_draw a.d_law_draw ["_law_tape_here", "_law_many"] (toSp K (nf a) 2 (S_law_draw K a)) := ok_law_draw T
  have G_law_ident : FnOk P w K mg base CX0 3 a.f_law_ident a.d_law_ident ["_law_tape_here", "_law_used"] (toSp K (nf a) 2 (S_law_ident K a)) := ok_law_ident T
  have G_law_number : FnOk P w K mg base CX0 2 a.f_law_number a.d_law_number ["_law_tape_here"] (toSp K (nf a) 1 (S_law_number K a)) := ok_law_number T
  have b_law_bad_ident := T.b_law_bad_ident
  have b_law_bad_number := T.b_law_bad_number
  have b_law_draw := T.b_law_draw
  have b_law_ident := T.b_law_ident
  have b_law_number := T.b_law_number
  refine T.F_law_item.ok sc_law_item (fun vs H Q E h => h.1) (fun cdv A outer s H vs Q E hr h => ?_)
  have hN := sc_law_item.nd
  have hu := hu_of hr
  have hu6 := hr.units
  refine body_ok (td := td_law_item K a) ?_ (by decide) (d_law_item) h
  exact (ds_cons (ds_set (i := 1) hN rfl (by first | exact Or.inl rfl | exact Or.inr rfl) (de_call G_law_draw (hr.mono (by decide)) rfl T.g_law_draw T.k_law_draw b_law_draw .nil (fun _ => .nil) pass0 (dm_slot (pv 0) (dm_val de_int dm_nil))))
      (ds_cons (ds_set (i := 2) hN rfl (by first | exact Or.inl rfl | exact Or.inr rfl) (de_tup (da_cons (de_call G_law_number (hr.mono (by decide)) rfl T.g_law_number T.k_law_number b_law_number .nil (fun _ => .nil) pass0 (dm_slot (pv 0) dm_nil)) (da_cons (de_call G_law_ident (hr.mono (by decide)) rfl T.g_law_ident T.k_law_ident b_law_ident .nil (fun _ => .nil) pass0 (dm_slot (pv 0) (dm_val (de_lst da_nil) dm_nil))) da_nil))))
      (ds_cons (ds_if (dc_eqG hu6 (dv 1) de_int) (ds_one (ds_ret (de_tup (da_cons de_str (da_cons (de_tup (da_cons (de_call G_law_bad_number (hr.mono (by decide)) rfl T.g_law_bad_number T.k_law_bad_number b_law_bad_number .nil (fun _ => .nil) pass0 (dm_slot (pv 0) dm_nil)) (da_cons (de_ixG hu (dv 2) de_int) da_nil))) da_nil))))) ds_nil)
      (ds_cons (ds_if (dc_eqG hu6 (dv 1) de_int) (ds_one (ds_ret (de_tup (da_cons de_str (da_cons (de_tup (da_cons (de_ixG hu (dv 2) de_int) (da_cons (de_call G_law_bad_ident (hr.mono (by decide)) rfl T.g_law_bad_ident T.k_law_bad_ident b_law_bad_ident .nil (fun _ => .nil) pass0 (dm_slot (pv 0) dm_nil)) da_nil))) da_nil))))) ds_nil)
      (ds_cons (ds_if (dc_eqG hu6 (dv 1) de_int) (ds_one (ds_ret (de_tup (da_cons de_str (da_cons (de_ixG hu (de_lst (da_cons (de_catT (dv 2) (de_tup (da_cons (de_ixG hu (dv 2) de_int) da_nil))) (da_cons (de_tup (da_cons (de_ixG hu (dv 2) de_int) da_nil)) (da_cons (de_ctF call_list_of cd_list rfl T.z_list (by decide +kernel) (da_cons (dv 2) da_nil)) (da_cons (de_ixG hu (dv 2) de_int) (da_cons de_non (da_cons (de_tup da_nil) da_nil))))))) (de_call G_law_draw (hr.mono (by decide)) rfl T.g_law_draw T.k_law_draw b_law_draw .nil (fun _ => .nil) pass0 (dm_slot (pv 0) (dm_val de_int dm_nil)))) da_nil))))) ds_nil)
      (ds_one (ds_ret (de_tup (da_cons de_str (da_cons (dv 2) da_nil))))))))))
theorem ok_law_family (T : Txt P K mg a) : FnE P w K mg base CX0 1 a.f_law_family a.d_law_family ["_law_e"] (fun xa xC xd => toSp K (nf a) 1 ((S_law_family K a) xa xC xd)) := by
  refine fun_okE T.F_law_family sc_law_family (fun _ _ _ vs H Q E h => h.1) (fun cdv p xC xd A outer s H vs Q E hz hf hr h => ?_)
  have hN := sc_law_family.nd
  refine body_ok (td := td_law_family K a p.1 xC xd) ?_ (by decide) (d_law_family T.E _ _ _) h
  exact (ds_cons (ds_set (i := 1) hN rfl (by first | exact Or.inl rfl | exact Or.inr rfl) (de_and (de_exIsP List.mem_cons_self hz hf rfl T.z_isinstance (pv 0) (pe_cls rfl T.g_BadCaptures)) (de_and (de_exIsP List.mem_cons_self hz hf rfl T.z_isinstance (pv 0) (pe_cls rfl T.g_BindspanError)) (de_one (de_exIsPT List.mem_cons_self hz hf rfl T.z_isinstance (pv 0) (pe_tyB rfl T.z_ValueError (by decide +kernel)))))))
      (ds_one (ds_ret (de_and (dv 1) (de_and (de_not (de_exIsP List.mem_cons_self hz hf rfl T.z_isinstance (pv 0) (pe_cls rfl T.g_NoKeeping))) (de_one (de_not (de_exIsP List.mem_cons_self hz hf rfl T.z_isinstance (pv 0) (pe_cls rfl T.g_TooMany)))))))))
theorem ok_law_joined (T : Txt P K mg a) : FnOk P w K mg base (L2.CX P w) 8 a.f_law_joined a.d_law_joined ["_law_made", "_law_way", "_law_items"] (toSpXT K (nf a) 3 (S_law_joined a)) := bxU (by simp (disch := with_unfolding_all
  have G_Captures_and : FnOk P w K mg base (L2.CX P w) 7 a.f_Captures_and a.d_Captures_and ["self", "other"] (toSpXT K (nf a) 2 (opX a)) := ok_Captures_and T
  have G_Captures_init : FnOk P w K mg base (L2.CX P w) 5 a.f_Captures_init a.d_Captures_init ["self", "pairs"] (toSpXT K (nf a) 2 (S_Captures_initX K a)) := ok_Captures_init T
  have G_Captures_or : FnOk P w K mg base (L2.CX P w) 7 a.f_Captures_or a.d_Captures_or ["self", "other"] (toSpXT K (nf a) 2 (opX a)) := ok_Captures_or T
  have G_Captures_rand : FnOk P w K mg base (L2.CX P w) 7 a.f_Captures_rand a.d_Captures_rand ["self", "other"] (toSpXT K (nf a) 2 (opX a)) := ok_Captures_rand T
  have G_Captures_ror : FnOk P w K mg base (L2.CX P w) 7 a.f_Captures_ror a.d_Captures_ror ["self", "other"] (toSpXT K (nf a) 2 (opX a)) := ok_Captures_ror T
  have G_Captures_rsub : FnOk P w K mg base (L2.CX P w) 7 a.f_Captures_rsub a.d_Captures_rsub ["self", "other"] (toSpXT K (nf a) 2 (opX a)) := ok_Captures_rsub T
  have G_Captures_rxor : FnOk P w K mg base (L2.CX P w) 7 a.f_Captures_rxor a.d_Captures_rxor ["self", "other"] (toSpXT K (nf a) 2 (opX a)) := ok_Captures_rxor T
  have G_Captures_sub : FnOk P w K mg base (L2.CX P w) 7 a.f_Captures_sub a.d_Captures_sub ["self", "other"] (toSpXT K (nf a) 2 (opX a)) := ok_Captures_sub T
  have G_Captures_xor : FnOk P w K mg base (L2.CX P w) 7 a.f_Captures_xor a.d_Captures_xor ["self", "other"] (toSpXT K (nf a) 2 (opX a)) := ok_Captures_xor T
  have G_Captures_of : FnR P w K mg base (L2.CX P w) 7 a.f_Captures_of (starSp 1 (toSpXT K (nf a) 2 (S_Captures_ofX a))) := ok_Captures_of T
  have b_Captures_and := T.b_Captures_and
  have b_Captures_init := T.b_Captures_init
  have b_Captures_or := T.b_Captures_or
  have b_Captures_rand := T.b_Captures_rand
  have b_Captures_ror := T.b_Captures_ror
  have b_Captures_rsub := T.b_Captures_rsub
  have b_Captures_rxor := T.b_Captures_rxor
  have b_Captures_sub := T.b_Captures_sub
  have b_Captures_xor := T.b_Captures_xor
  refine T.F_law_joined.okX sc_law_joined (fun vs H Q E h => h.2.1) (fun cdv A outer s H vs Q E hr h => ?_)
  have hN := sc_law_joined.nd
  have hu := hu_of hr
  have hu6 := hr.units
  refine body_okXT (td := fun xc => td_law_joined K a xc) (fun A' xc tb lk => ?_) (by decide) (d_law_joined) h
  exact (ds_cons (ds_if (dc_eqG hu6 (dv 1) de_int) (ds_one (ds_ret (de_ownSX tb G_Captures_or (hr.mono (by decide)) b_Captures_or T.op_or T.opL_or T.opP_or (takes_of rfl rfl rfl rfl) lk (dv 0) (dv 2)))) ds_nil)
      (ds_cons (ds_if (dc_eqG hu6 (dv 1) de_int) (ds_one (ds_ret (de_ownSX tb G_Captures_and (hr.mono (by decide)) b_Captures_and T.op_and T.opL_and T.opP_and (takes_of rfl rfl rfl rfl) lk (dv 0) (dv 2)))) ds_nil)
      (ds_cons (ds_if (dc_eqG hu6 (dv 1) de_int) (ds_one (ds_ret (de_ownSX tb G_Captures_sub (hr.mono (by decide)) b_Captures_sub T.op_sub T.opL_sub T.opP_sub (takes_of rfl rfl rfl rfl) lk (dv 0) (dv 2)))) ds_nil)
      (ds_cons (ds_if (dc_eqG hu6 (dv 1) de_int) (ds_one (ds_ret (de_ownSX tb G_Captures_xor (hr.mono (by decide)) b_Captures_xor T.op_xor T.opL_xor T.opP_xor (takes_of rfl rfl rfl rfl) lk (dv 0) (dv 2)))) ds_nil)
      (ds_cons (ds_if (dc_eqG hu6 (dv 1) de_int) (ds_one (ds_ret (de_sOwnX tb G_Captures_ror (hr.mono (by decide)) b_Captures_ror T.opB_or bare_or (takes_of rfl rfl rfl rfl) lk (dv 2) (dv 0)))) ds_nil)
      (ds_cons (ds_if (dc_eqG hu6 (dv 1) de_int) (ds_one (ds_ret (de_sOwnX tb G_Captures_rand (hr.mono (by decide)) b_Captures_rand T.opB_and bare_and (takes_of rfl rfl rfl rfl) lk (dv 2) (dv 0)))) ds_nil)
      (ds_cons (ds_if (dc_eqG hu6 (dv 1) de_int) (ds_one (ds_ret (de_sOwnX tb G_Captures_rsub (hr.mono (by decide)) b_Captures_rsub T.opB_sub bare_sub (takes_of rfl rfl rfl rfl) lk (dv 2) (dv 0)))) ds_nil)
      (ds_cons (ds_if (dc_eqG hu6 (dv 1) de_int) (ds_one (ds_ret (de_sOwnX tb G_Captures_rxor (hr.mono (by decide)) b_Captures_rxor T.opB_xor bare_xor (takes_of rfl rfl rfl rfl) lk (dv 2) (dv 0)))) ds_nil)
      (ds_cons (ds_if (dc_eqG hu6 (dv 1) de_int) (ds_one (ds_ret (de_cmethSX tb (de_gref rfl T.g_Captures) T.cr_Captures T.cm_Captures_of G_Captures_of (hr.mono (by decide)) (takes_of rfl rfl rfl rfl) lk (da_cons (de_ixG hu (dv 2) (de_neg de_int)) da_nil)))) ds_nil)
      (ds_one (ds_ret (de_makeXT tb T.mk_Captures G_Captures_init (hr.mono (by decide)) rfl T.g_Captures b_Captures_init .nil (fun _ => .nil) (takes_of rfl rfl rfl rfl) lk (dm_val (dv 2) dm_nil)))))))))))))) only [bxI])
theorem ok_law_result (T : Txt P K mg a) : FnOk P w K mg base CX0 9 a.f_law_result a.d_law_result ["_law_made", "_law_way", "_law_items"] (toSpT K (nf a) 3 (S_law_result a)) := bxU (by simp (disch := with_unfolding_all
  have G_law_family : FnE P w K mg base CX0 1 a.f_law_family a.d_law_family ["_law_e"] (fun xa xC xd => toSp K (nf a) 1 ((S_law_family K a) xa xC xd)) := ok_law_family T
  have G_law_joined : FnOk P w K mg base (L2.CX P w) 8 a.f_law_joined a.d_law_joined ["_law_made", "_law_way", "_law_items"] (toSpXT K (nf a) 3 (S_law_joined a)) := ok_law_joined T
  have b_law_family := T.b_law_family
  have b_law_joined := T.b_law_joined
  refine T.F_law_result.ok sc_law_result (fun vs H Q E h => h.2.1) (fun cdv A outer s H vs Q E hr h => ?_)
  have hN := sc_law_result.nd
  have hu := hu_of hr
  have hu6 := hr.units
  refine body_okT (td := td_law_result K a) (fun A' tb => ?_) (by decide) (d_law_result T.E) h
  exact (ds_cons (ds_tryH rfl rfl tk0 lk0 (fun A2 W2 xc pn2 xe2 hA tk po lk => (ds_one (ds_set (i := 3) hN rfl (by first | exact Or.inl rfl | exact Or.inr rfl) (de_tup (da_cons de_str (da_cons (de_fld (de_callXT (tabUp hA tb) G_law_joined (hr.mono (by decide)) rfl T.g_law_joined T.k_law_joined b_law_joined .nil (fun _ => .nil) tk lk (dm_val (dv 0) (dm_val (dv 1) (dm_val (dv 2) dm_nil)))) T.c_Captures T.n_Captures_pairs) da_nil)))))) (.as (i := 4) hN rfl rfl ⟨rfl, by decide, .inl T.g_BadPair⟩ (fun xa xo xC xd xn hz hf => (ds_one (ds_set (i := 3) hN rfl (by first | exact Or.inl rfl | exact Or.inr rfl) (de_tup (da_cons de_str (da_cons (de_callE G_law_family (roomE (hr.mono (by decide))) List.mem_cons_self hz hf rfl T.g_law_family T.k_law_family b_law_family pass0 (dm_slot (pv 4) dm_nil)) (da_cons (de_exF hz hf (pv 4)) da_nil))))))) .nil))
      (ds_one (ds_ret (dv 3))))) only [bxI])
theorem ok_law (T : Txt P K mg a) : FnOk P w K mg base CX0 10 a.f_law a.d_law ["_law_script"] (toSpT K (nf a) 1 (S_law a)) := by
  have G_Captures_init : FnOk P w K mg base (L2.CX P w) 5 a.f_Captures_init a.d_Captures_init ["self", "pairs"] (toSpXT K (nf a) 2 (S_Captures_initX K a)) := ok_Captures_init T
  have G_law_ascending : FnOk P w K mg base CX0 1 a.f_law_ascending a.d_law_ascending ["_law_pairs_here"] (toSp K (nf a) 1 (S_law_ascending a)) := ok_law_ascending T
  have G_law_item : FnOk P w K mg base CX0 5 a.f_law_item a.d_law_item ["_law_tape_here"] (toSp K (nf a) 1 (S_law_item K a)) := ok_law_item T
  have G_law_result : FnOk P w K mg base CX0 9 a.f_law_result a.d_law_result ["_law_made", "_law_way", "_law_items"] (toSpT K (nf a) 3 (S_law_result a)) := ok_law_result T
  have G_law_tape : FnOk P w K mg base CX0 1 a.f_law_tape a.d_law_tape ["_law_script", "_law_k"] (toSpO K (nf a) 2 (S_law_tape K a)) := ok_law_tape T
  have b_Captures_init := T.b_Captures_init
  have b_law_ascending := T.b_law_ascending
  have b_law_item := T.b_law_item
  have b_law_result := T.b_law_result
  have b_law_tape := T.b_law_tape
  refine T.F_law.ok sc_law (fun vs H Q E h => h.2.1) (fun cdv A outer s H vs Q E hr h => ?_)
  have hN := sc_law.nd
  have hu := hu_of hr
  have hu6 := hr.units
  refine body_okT (td := td_law K a) (fun A' tb => ?_) (by decide) (d_law T.E) h
  exact (ds_cons (ds_setLc (i := 1) rfl hN rfl rfl rfl (di_range1 rfl T.z_range (da_cons (de_cb (call_min2 rfl) cd_min rfl T.z_min (by decide +kernel) (da_cons de_int (da_cons (de_cb (call_max2 rfl) cd_max rfl T.z_max (by decide +kernel) (da_cons de_int (da_cons (de_cb call_len_seq cd_lenR rfl T.z_len boot_len (da_cons (dv 0) da_nil)) da_nil))) da_nil))) da_nil)) (own := [("_law_k", 2)]) (show BlkOk ["_law_script", "_law_items", "_law_k", "_law_row", "_law_item_here", "_law_bad", "_law_made", "_law_way", "_law_handed", "_law_found", "_law_last"] (defScope s_law) _ _ from ⟨rfl, by decide +kernel, by decide +kernel, by decide +kernel, by decide +kernel⟩) (fun s H C cl fp => (dg_name (i := 2) hN rfl (by first | exact Or.inl rfl | exact Or.inr rfl))) (fun s H C cl fp => dts_nil) (fun s H C cl fp => (de_callT G_law_item (hr.mono (by decide)) rfl T.g_law_item T.k_law_item b_law_item pass0 G_law_tape (hr.mono (by decide)) rfl T.g_law_tape T.k_law_tape b_law_tape pass0 (dm_val (dv 0) (dm_val (dv 2) dm_nil)) dm_nil)))
      (ds_cons (ds_setLc (i := 3) rfl hN rfl rfl rfl (di_list (dv 1)) (own := [("_law_item_here", 4)]) (show BlkOk ["_law_script", "_law_items", "_law_k", "_law_row", "_law_item_here", "_law_bad", "_law_made", "_law_way", "_law_handed", "_law_found", "_law_last"] (defScope s_law) _ _ from ⟨rfl, by decide +kernel, by decide +kernel, by decide +kernel, by decide +kernel⟩) (fun s H C cl fp => (dg_name (i := 4) hN rfl (by first | exact Or.inl rfl | exact Or.inr rfl))) (fun s H C cl fp => dts_nil) (fun s H C cl fp => (de_ixG hu (dv 4) de_int)))
      (ds_cons (ds_setLc (i := 5) rfl hN rfl rfl rfl (di_list (dv 1)) (own := [("_law_item_here", 4)]) (show BlkOk ["_law_script", "_law_items", "_law_k", "_law_row", "_law_item_here", "_law_bad", "_law_made", "_law_way", "_law_handed", "_law_found", "_law_last"] (defScope s_law) _ _ from ⟨rfl, by decide +kernel, by decide +kernel, by decide +kernel, by decide +kernel⟩) (fun s H C cl fp => (dg_name (i := 4) hN rfl (by first | exact Or.inl rfl | exact Or.inr rfl))) (fun s H C cl fp => (dts_one (dc_eqG hu6 (de_ixG hu (dv 4) de_int) de_str))) (fun s H C cl fp => (de_ixG hu (dv 4) de_int)))
      (ds_cons (ds_set (i := 6) hN rfl (by first | exact Or.inl rfl | exact Or.inr rfl) (de_makeXT tb T.mk_Captures G_Captures_init (hr.mono (by decide)) rfl T.g_Captures b_Captures_init .nil (fun _ => .nil) tk0 lk0 (dm_val (de_lst (da_cons (de_tup (da_cons de_int (da_cons de_str da_nil))) (da_cons (de_tup (da_cons de_int (da_cons de_str da_nil))) da_nil))) dm_nil)))
      (ds_cons (ds_for PassesOwn.never rfl (di_tup (de_tup (da_cons de_int (da_cons de_int (da_cons de_int (da_cons de_int (da_cons de_int (da_cons de_int (da_cons de_int (da_cons de_int (da_cons de_int da_nil))))))))))) (dg_name (i := 7) hN rfl (by first | exact Or.inl rfl | exact Or.inr rfl)) (ds_one (ds_for PassesOwn.never rfl (di_tup (de_tup (da_cons (de_ctF call_list_of cd_list rfl T.z_list (by decide +kernel) (da_cons (dv 3) da_nil)) (da_cons (de_ct call_tuple_of cd_tuple rfl T.z_tuple (by decide +kernel) (da_cons (dv 3) da_nil)) da_nil)))) (dg_name (i := 8) hN rfl (by first | exact Or.inl rfl | exact Or.inr rfl)) (ds_cons (ds_set (i := 9) hN rfl (by first | exact Or.inl rfl | exact Or.inr rfl) (de_callTb tb G_law_result (hr.mono (by decide)) rfl T.g_law_result T.k_law_result b_law_result .nil (fun _ => .nil) pass0 (dm_val (dv 6) (dm_val (dv 7) (dm_val (dv 8) dm_nil)))))
      (ds_cons (ds_if (DW.dc (dw_and (dc_neG hu6 (dv 5) (de_lst da_nil)) (dw_and1 (dc_neG hu6 (dv 9) (de_tup (da_cons de_str (da_cons de_bl (da_cons (de_ixG hu (dv 5) de_int) da_nil)))))))) (ds_one (ds_ret de_bl)) ds_nil)
      (ds_cons (ds_if (DW.dc (dw_and (dc_eqG hu6 (dv 5) (de_lst da_nil)) (dw_and1 (dc_neG hu6 (de_ixG hu (dv 9) de_int) de_str)))) (ds_one (ds_ret de_bl)) ds_nil)
      (ds_one (ds_if (DW.dc (dw_or (dc_neG hu6 (de_fld (dv 6) T.c_Captures T.n_Captures_pairs) (de_tup (da_cons (de_tup (da_cons de_int (da_cons de_str da_nil))) (da_cons (de_tup (da_cons de_int (da_cons de_str da_nil))) da_nil)))) (dw_or1 (dc_neG hu6 (de_ctF call_list_of cd_list rfl T.z_list (by decide +kernel) (da_cons (dv 8) da_nil)) (dv 3))))) (ds_one (ds_ret de_bl)) ds_nil))))))))
      (ds_cons (ds_set (i := 10) hN rfl (by first | exact Or.inl rfl | exact Or.inr rfl) (de_callTb tb G_law_result (hr.mono (by decide)) rfl T.g_law_result T.k_law_result b_law_result .nil (fun _ => .nil) pass0 (dm_val (dv 6) (dm_val de_int (dm_val (de_ctF call_list_of cd_list rfl T.z_list (by decide +kernel) (da_cons (dv 3) da_nil)) dm_nil)))))
      (ds_cons (ds_if (dc_eqG hu6 (de_ixG hu (de_ixG hu (dv 1) (de_neg de_int)) de_int) de_str) (ds_one (ds_ret (de_eqG hu6 (dv 10) (de_tup (da_cons de_str (da_cons de_bl (da_cons (de_ixG hu (dv 3) (de_neg de_int)) da_nil))))))) ds_nil)
      (ds_cons (ds_if (dc_neG hu6 (dv 10) (de_tup (da_cons de_str (da_cons (de_tup (da_cons (de_ixG hu (dv 3) (de_neg de_int)) da_nil)) da_nil)))) (ds_one (ds_ret de_bl)) ds_nil)
      (ds_one (ds_ret (de_or (de_neG hu6 (dv 5) (de_lst da_nil)) (de_one (de_eqG hu6 (de_callTb tb G_law_result (hr.mono (by decide)) rfl T.g_law_result T.k_law_result b_law_result .nil (fun _ => .nil) pass0 (dm_val (dv 6) (dm_val de_int (dm_val (de_ctF call_list_of cd_list rfl T.z_list (by decide +kernel) (da_cons (dv 3) da_nil)) dm_nil)))) (de_tup (da_cons de_str (da_cons (de_ct call_tuple_of cd_tuple rfl T.z_tuple (by decide +kernel) (da_cons (de_call G_law_ascending (hr.mono (by decide)) rfl T.g_law_ascending T.k_law_ascending b_law_ascending .nil (fun _ => .nil) pass0 (dm_val (dv 3) dm_nil)) da_nil)) da_nil))))))))))))))))
end
open PySem L2 DL
theorem t_BadPair : DH.SupT PySem.Challenge.pw_bindspan_k05_captures_refuse q_BadPair := by
  refine ⟨⟨_, _, _, _, _, _, _, _, _, rfl, fun env => ⟨_, rfl⟩, (.cons .nil)⟩, rfl, rfl, rfl, by decide +kernel, by decide +kernel, by decide +kernel, by decide +kernel, ⟨_, rfl, rfl⟩, ?_, by decide, by decide, by decide, by decide, by decide +kernel⟩
  intro fd h1 h2 us hl
  obtain ⟨n1, n2, n3, n4, n5, n6, n7, n8, n9, n10, n11, n12, n13, n14, n15⟩ := fd
  have e1 : n3 = defArgs q_BadPair.st := h1
  have e2 : n8 = .none := h2
  subst e1 e2
  match us, hl with | [_, _], _ => rfl
end K05
namespace DH
open PySem L2 DL
open PySem.W (Frag)
theorem ops_ok {K : Frag} {x : Str} {nm : String} {m r : Str} (h : opsB K x nm m r = true) : OpC K (He.ga K x) nm (He.ma K (He.ga K x) m) ∧ OpB K (He.ga K x) nm (He.ma K (He.ga K x) m) (He.ma K (He.ga K x) r) ∧
    OpT K (He.ga K x) nm "list" (some (.ref (He.ma K (He.ga K x) r))) none none ∧ OpT K (He.ga K x) nm "tuple" (some (.ref (He.ma K (He.ga K x) r))) none none := bxU (by simp (disch := with_unfolding_all
  unfold opsB at h
  obtain ⟨h1, h⟩ := and2 h
  obtain ⟨h2, h⟩ := and2 h
  obtain ⟨h3, h⟩ := and2 h
  obtain ⟨h4, h⟩ := and2 h
  obtain ⟨h5, h⟩ := and2 h
  obtain ⟨h6, h⟩ := and2 h
  obtain ⟨h7, h⟩ := and2 h
  obtain ⟨h8, h⟩ := and2 h
  obtain ⟨h9, h⟩ := and2 h
  obtain ⟨h10, h11⟩ := and2 h
  exact ⟨⟨h1, He.eqO_ok h2, h3⟩, ⟨h1, He.eqO_ok h2, He.eqO_ok h4, h5⟩, ⟨He.eqO_ok h4, .inr ⟨_, rfl⟩, He.eqO_ok h6, He.eqO_ok h7, of_decide_eq_true h8⟩, ⟨He.eqO_ok h4, .inr ⟨_, rfl⟩, He.eqO_ok h9, He.eqO_ok h10, of_decide_eq_true h11⟩⟩) only [bxI])
theorem cm_ok {K : Frag} {x m : Str} (h : cmB K x m = true) : ClX.CMet K (He.ga K x) (.type "type") m (He.ma K (He.ga K x) m) (He5.wf K (He.ga K x) "classmethod" m) := bxU (by simp (disch := with_unfolding_all
  obtain ⟨h1, h2⟩ := and2 h
  exact He5.cmet_of h1 h2) only [bxI])
theorem cr_ok {K : Frag} {x : Str} (h : crB K x = true) : ClX.CRead K (He.ga K x) (.type "type") := bxU (by simp (disch := with_unfolding_all
  obtain ⟨h1, h2⟩ := and2 h
  exact ⟨h1, He.eqO_ok h2⟩) only [bxI])
end DH
namespace K05
open PySem L2 DL
theorem errC_of {K : PySem.W.Frag} {P : Program} {C : Addr} {fl : List Str} (i : ExI K C) (s : SupE K P C fl) : ErrC K C fl := bxU (by simp (disch := with_unfolding_all
  obtain ⟨_, _, s⟩ := s
  exact ⟨i, s.noF⟩) only [bxI])
theorem ef_of {K : PySem.W.Frag} {P : Program} {a : Ad} (e_BadPair : a.C_BadPair = He.ga K "BadPair") (e_BadCaptures : a.C_BadCaptures = He.ga K "BadCaptures") (e_BindspanError : a.C_BindspanError = He.ga K "BindspanError") (e_NoKeeping : a.C_NoKeeping = He.ga K "NoKeeping") (e_TooMany : a.C_TooMany = He.ga K "TooMany") (s_BadPair : SupE K P a.C_BadPair ["pair"]) (h0 : efB K = true) : EF K a := bxU (by simp (disch := with_unfolding_all
  unfold efB at h0
  obtain ⟨y0, h1⟩ := DH.and2 h0
  obtain ⟨y1, h2⟩ := DH.and2 h1
  obtain ⟨y2, h3⟩ := DH.and2 h2
  obtain ⟨y3, h4⟩ := DH.and2 h3
  obtain ⟨y4, h5⟩ := DH.and2 h4
  obtain ⟨y5, h6⟩ := DH.and2 h5
  have y6 := h6
  exact ⟨errC_of (by rw [e_BadPair]; exact DH.exi_of y0) s_BadPair,
    by rw [e_BadPair]; exact of_decide_eq_true y1,
    by rw [e_BadPair, e_BadCaptures]; exact of_decide_eq_true y2,
    by rw [e_BadPair, e_BindspanError]; exact of_decide_eq_true y3,
    by rw [e_BadPair]; exact of_decide_eq_true y4,
    by rw [e_BadPair, e_NoKeeping]; exact of_decide_eq_true y5,
    by rw [e_BadPair, e_TooMany]; exact of_decide_eq_true y6⟩) only [bxI])
theorem exO_ok {K : PySem.W.Frag} (h : exO K = true) : DH.opsB K "Captures" "or" "__or__" "__ror__" = true ∧ DH.opsB K "Captures" "and" "__and__" "__rand__" = true ∧ DH.opsB K "Captures" "sub" "__sub__" "__rsub__" = true ∧ DH.opsB K "Captures" "xor" "__xor__" "__rxor__" = true ∧ DH.kitB0 K "list" "Captures" = true ∧ DH.kitB0 K "tuple" "Captures" = true := bxU (by simp (disch := with_unfolding_all
  unfold exO at h
  simpa only [Bool.and_eq_true] using h) only [bxI])
theorem facts {w : World} {K : PySem.W.Frag} {h : Heap} {mg : Str → Option Value} {fa : Addr} (X : K.In h) (G : h.Ns mainGlobals mg) (hfa : mg "law" = some (.ref fa)) (c : DH.obsK ask K = DH.valA ask) :
    ∃ (fd : FuncData) (a : Ad), (∀ (s : Shared) (v : Value), BindsTo s fd ⟨[v], []⟩ [("_law_script", v)]) ∧ ∀ base : Heap, K.In base → base.Ns mainGlobals mg → FnOk (PySem.Challenge.rw_bindspan_k05_captures_refuse).prog w K mg base CX0 10 fa fd ["_law_script"] (toSp K (nf a) 1 (S_law a)) := bxU (by simp (disch := with_unfolding_all
  have e := hfa.symm.trans (He.glo_ok X G (DH.says_fa c 21 rfl))
  cases e
  obtain ⟨d_is_word, F0_is_word⟩ := DH.says_fn c 0 (d := df_is_word) rfl
  have F_is_word : Fun K "is_word" "is_word" s_is_word (He.ga K "is_word") d_is_word := DH.fun_of F0_is_word
  have b_is_word := F_is_word.binds (ps := ["value"]) fun _ _ _ _ _ _ us hl => match us, hl with | [_], _ => rfl
  obtain ⟨d_is_identifier, F0_is_identifier⟩ := DH.says_fn c 1 (d := df_is_identifier) rfl
  have F_is_identifier : Fun K "is_identifier" "is_identifier" s_is_identifier (He.ga K "is_identifier") d_is_identifier := DH.fun_of F0_is_identifier
  have b_is_identifier := F_is_identifier.binds (ps := ["value"]) fun _ _ _ _ _ _ us hl => match us, hl with | [_], _ => rfl
  obtain ⟨d_is_pair, F0_is_pair⟩ := DH.says_fn c 2 (d := df_is_pair) rfl
  have F_is_pair : Fun K "is_pair" "is_pair" s_is_pair (He.ga K "is_pair") d_is_pair := DH.fun_of F0_is_pair
  have b_is_pair := F_is_pair.binds (ps := ["value"]) fun _ _ _ _ _ _ us hl => match us, hl with | [_], _ => rfl
  obtain ⟨d_in_order, F0_in_order⟩ := DH.says_fn c 3 (d := df_in_order) rfl
  have F_in_order : Fun K "in_order" "in_order" s_in_order (He.ga K "in_order") d_in_order := DH.fun_of F0_in_order
  have b_in_order := F_in_order.binds (ps := ["pairs"]) fun _ _ _ _ _ _ us hl => match us, hl with | [_], _ => rfl
  obtain ⟨d_Captures_init, F0_Captures_init⟩ := DH.says_fn c 4 (d := df_Captures_init) rfl
  have F_Captures_init : FunD K "__init__" "Captures.__init__" (defArgs s_Captures_init) (defBody s_Captures_init) (defScope s_Captures_init) [.ref (He.dflAt ("Captures", some "__init__") 0 K)] [] (He.ma K (He.ga K "Captures") "__init__") d_Captures_init := F0_Captures_init
  obtain ⟨ds_Captures_init, vd_Captures_init, b_Captures_init⟩ := F_Captures_init.binds1 (ps := ["self", "pairs"]) 2 1 (by simp) rfl (fun T kV doc pm an cdv ct us its hu hi => match us, hu, its, hi with | [_, _], _, [_], _ => ⟨_, rfl, rfl⟩)
  cases vd_Captures_init
  obtain ⟨d_Captures_of, F0_Captures_of⟩ := DH.says_fnA c 0 (d := df_Captures_of) rfl
  have F_Captures_of : Fun K "of" "Captures.of" s_Captures_of (He5.wf K (He.ga K "Captures") "classmethod" "of") d_Captures_of := DH.fun_of F0_Captures_of
  obtain ⟨d_pairs_of, F0_pairs_of⟩ := DH.says_fn c 5 (d := df_pairs_of) rfl
  have F_pairs_of : Fun K "pairs_of" "pairs_of" s_pairs_of (He.ga K "pairs_of") d_pairs_of := DH.fun_of F0_pairs_of
  have b_pairs_of := F_pairs_of.binds (ps := ["other"]) fun _ _ _ _ _ _ us hl => match us, hl with | [_], _ => rfl
  obtain ⟨d_shared_pairs, F0_shared_pairs⟩ := DH.says_fn c 6 (d := df_shared_pairs) rfl
  have F_shared_pairs : Fun K "shared_pairs" "shared_pairs" s_shared_pairs (He.ga K "shared_pairs") d_shared_pairs := DH.fun_of F0_shared_pairs
  have b_shared_pairs := F_shared_pairs.binds (ps := ["first", "second"]) fun _ _ _ _ _ _ us hl => match us, hl with | [_, _], _ => rfl
  obtain ⟨d_missing_pairs, F0_missing_pairs⟩ := DH.says_fn c 7 (d := df_missing_pairs) rfl
  have F_missing_pairs : Fun K "missing_pairs" "missing_pairs" s_missing_pairs (He.ga K "missing_pairs") d_missing_pairs := DH.fun_of F0_missing_pairs
  have b_missing_pairs := F_missing_pairs.binds (ps := ["first", "second"]) fun _ _ _ _ _ _ us hl => match us, hl with | [_, _], _ => rfl
  obtain ⟨d_Captures_or, F0_Captures_or⟩ := DH.says_fn c 8 (d := df_Captures_or) rfl
  have F_Captures_or : Fun K "__or__" "Captures.__or__" s_Captures_or (He.ma K (He.ga K "Captures") "__or__") d_Captures_or := DH.fun_of F0_Captures_or
  have b_Captures_or := F_Captures_or.binds (ps := ["self", "other"]) fun _ _ _ _ _ _ us hl => match us, hl with | [_, _], _ => rfl
  obtain ⟨d_Captures_ror, F0_Captures_ror⟩ := DH.says_fn c 9 (d := df_Captures_ror) rfl
  have F_Captures_ror : Fun K "__ror__" "Captures.__ror__" s_Captures_ror (He.ma K (He.ga K "Captures") "__ror__") d_Captures_ror := DH.fun_of F0_Captures_ror
  have b_Captures_ror := F_Captures_ror.binds (ps := ["self", "other"]) fun _ _ _ _ _ _ us hl => match us, hl with | [_, _], _ => rfl
  obtain ⟨d_Captures_and, F0_Captures_and⟩ := DH.says_fn c 10 (d := df_Captures_and) rfl
  have F_Captures_and : Fun K "__and__" "Captures.__and__" s_Captures_and (He.ma K (He.ga K "Captures") "__and__") d_Captures_and := DH.fun_of F0_Captures_and
  have b_Captures_and := F_Captures_and.binds (ps := ["self", "other"]) fun _ _ _ _ _ _ us hl => match us, hl with | [_, _], _ => rfl
  obtain ⟨d_Captures_rand, F0_Captures_rand⟩ := DH.says_fn c 11 (d := df_Captures_rand) rfl
  have F_Captures_rand : Fun K "__rand__" "Captures.__rand__" s_Captures_rand (He.ma K (He.ga K "Captures") "__rand__") d_Captures_rand := DH.fun_of F0_Captures_rand
  have b_Captures_rand := F_Captures_rand.binds (ps := ["self", "other"]) fun _ _ _ _ _ _ us hl => match us, hl with | [_, _], _ => rfl
  obtain ⟨d_Captures_sub, F0_Captures_sub⟩ := DH.says_fn c 12 (d := df_Captures_sub) rfl
  have F_Captures_sub : Fun K "__sub__" "Captures.__sub__" s_Captures_sub (He.ma K (He.ga K "Captures") "__sub__") d_Captures_sub := DH.fun_of F0_Captures_sub
  have b_Captures_sub := F_Captures_sub.binds (ps := ["self", "other"]) fun _ _ _ _ _ _ us hl => match us, hl with | [_, _], _ => rfl
  obtain ⟨d_Captures_rsub, F0_Captures_rsub⟩ := DH.says_fn c 13 (d := df_Captures_rsub) rfl
  have F_Captures_rsub : Fun K "__rsub__" "Captures.__rsub__" s_Captures_rsub (He.ma K (He.ga K "Captures") "__rsub__") d_Captures_rsub := DH.fun_of F0_Captures_rsub
  have b_Captures_rsub := F_Captures_rsub.binds (ps := ["self", "other"]) fun _ _ _ _ _ _ us hl => match us, hl with | [_, _], _ => rfl
  obtain ⟨d_Captures_xor, F0_Captures_xor⟩ := DH.says_fn c 14 (d := df_Captures_xor) rfl
  have F_Captures_xor : Fun K "__xor__" "Captures.__xor__" s_Captures_xor (He.ma K (He.ga K "Captures") "__xor__") d_Captures_xor := DH.fun_of F0_Captures_xor
  have b_Captures_xor := F_Captures_xor.binds (ps := ["self", "other"]) fun _ _ _ _ _ _ us hl => match us, hl with | [_, _], _ => rfl
  obtain ⟨d_Captures_rxor, F0_Captures_rxor⟩ := DH.says_fn c 15 (d := df_Captures_rxor) rfl
  have F_Captures_rxor : Fun K "__rxor__" "Captures.__rxor__" s_Captures_rxor (He.ma K (He.ga K "Captures") "__rxor__") d_Captures_rxor := DH.fun_of F0_Captures_rxor
  have b_Captures_rxor := F_Captures_rxor.binds (ps := ["self", "other"]) fun _ _ _ _ _ _ us hl => match us, hl with | [_, _], _ => rfl
  obtain ⟨d_law_tape, F0_law_tape⟩ := DH.says_fn c 16 (d := df_law_tape) rfl
  have F_law_tape : Fun K "_law_tape" "_law_tape" s_law_tape (He.ga K "_law_tape") d_law_tape := DH.fun_of F0_law_tape
  have b_law_tape := F_law_tape.binds (ps := ["_law_script", "_law_k"]) fun _ _ _ _ _ _ us hl => match us, hl with | [_, _], _ => rfl
  obtain ⟨d_law_draw, F0_law_draw⟩ := DH.says_fn c 17 (d := df_law_draw) rfl
  have F_law_draw : Fun K "_law_draw" "_law_draw" s_law_draw (He.ga K "_law_draw") d_law_draw := DH.fun_of F0_law_draw
  have b_law_draw := F_law_draw.binds (ps := ["_law_tape_here", "_law_many"]) fun _ _ _ _ _ _ us hl => match us, hl with | [_, _], _ => rfl
  obtain ⟨d_law_kept, F0_law_kept⟩ := DH.says_fn c 18 (d := df_law_kept) rfl
  have F_law_kept : Fun K "_law_kept" "_law_kept" s_law_kept (He.ga K "_law_kept") d_law_kept := DH.fun_of F0_law_kept
  have b_law_kept := F_law_kept.binds (ps := []) fun _ _ _ _ _ _ us hl => match us, hl with | [], _ => rfl
  obtain ⟨d_law_signs, F0_law_signs⟩ := DH.says_fn c 19 (d := df_law_signs) rfl
  have F_law_signs : Fun K "_law_signs" "_law_signs" s_law_signs (He.ga K "_law_signs") d_law_signs := DH.fun_of F0_law_signs
  have b_law_signs := F_law_signs.binds (ps := []) fun _ _ _ _ _ _ us hl => match us, hl with | [], _ => rfl
  obtain ⟨d_law_spelled, F0_law_spelled⟩ := DH.says_fn c 20 (d := df_law_spelled) rfl
  have F_law_spelled : Fun K "_law_spelled" "_law_spelled" s_law_spelled (He.ga K "_law_spelled") d_law_spelled := DH.fun_of F0_law_spelled
  have b_law_spelled := F_law_spelled.binds (ps := ["_law_tape_here", "_law_used"]) fun _ _ _ _ _ _ us hl => match us, hl with | [_, _], _ => rfl
  obtain ⟨d_law_ident, F0_law_ident⟩ := DH.says_fn c 21 (d := df_law_ident) rfl
  have F_law_ident : Fun K "_law_ident" "_law_ident" s_law_ident (He.ga K "_law_ident") d_law_ident := DH.fun_of F0_law_ident
  have b_law_ident := F_law_ident.binds (ps := ["_law_tape_here", "_law_used"]) fun _ _ _ _ _ _ us hl => match us, hl with | [_, _], _ => rfl
  obtain ⟨d_law_number, F0_law_number⟩ := DH.says_fn c 22 (d := df_law_number) rfl
  have F_law_number : Fun K "_law_number" "_law_number" s_law_number (He.ga K "_law_number") d_law_number := DH.fun_of F0_law_number
  have b_law_number := F_law_number.binds (ps := ["_law_tape_here"]) fun _ _ _ _ _ _ us hl => match us, hl with | [_], _ => rfl
  obtain ⟨d_law_ascending, F0_law_ascending⟩ := DH.says_fn c 23 (d := df_law_ascending) rfl
  have F_law_ascending : Fun K "_law_ascending" "_law_ascending" s_law_ascending (He.ga K "_law_ascending") d_law_ascending := DH.fun_of F0_law_ascending
  have b_law_ascending := F_law_ascending.binds (ps := ["_law_pairs_here"]) fun _ _ _ _ _ _ us hl => match us, hl with | [_], _ => rfl
  obtain ⟨d_law_bad_number, F0_law_bad_number⟩ := DH.says_fn c 24 (d := df_law_bad_number) rfl
  have F_law_bad_number : Fun K "_law_bad_number" "_law_bad_number" s_law_bad_number (He.ga K "_law_bad_number") d_law_bad_number := DH.fun_of F0_law_bad_number
  have b_law_bad_number := F_law_bad_number.binds (ps := ["_law_tape_here"]) fun _ _ _ _ _ _ us hl => match us, hl with | [_], _ => rfl
  obtain ⟨d_law_bad_ident, F0_law_bad_ident⟩ := DH.says_fn c 25 (d := df_law_bad_ident) rfl
  have F_law_bad_ident : Fun K "_law_bad_ident" "_law_bad_ident" s_law_bad_ident (He.ga K "_law_bad_ident") d_law_bad_ident := DH.fun_of F0_law_bad_ident
  have b_law_bad_ident := F_law_bad_ident.binds (ps := ["_law_tape_here"]) fun _ _ _ _ _ _ us hl => match us, hl with | [_], _ => rfl
  obtain ⟨d_law_item, F0_law_item⟩ := DH.says_fn c 26 (d := df_law_item) rfl
  have F_law_item : Fun K "_law_item" "_law_item" s_law_item (He.ga K "_law_item") d_law_item := DH.fun_of F0_law_item
  have b_law_item := F_law_item.binds (ps := ["_law_tape_here"]) fun _ _ _ _ _ _ us hl => match us, hl with | [_], _ => rfl
  obtain ⟨d_law_family, F0_law_family⟩ := DH.says_fn c 27 (d := df_law_family) rfl
  have F_law_family : Fun K "_law_family" "_law_family" s_law_family (He.ga K "_law_family") d_law_family := DH.fun_of F0_law_family
  have b_law_family := F_law_family.binds (ps := ["_law_e"]) fun _ _ _ _ _ _ us hl => match us, hl with | [_], _ => rfl
  obtain ⟨d_law_joined, F0_law_joined⟩ := DH.says_fn c 28 (d := df_law_joined) rfl
  have F_law_joined : Fun K "_law_joined" "_law_joined" s_law_joined (He.ga K "_law_joined") d_law_joined := DH.fun_of F0_law_joined
  have b_law_joined := F_law_joined.binds (ps := ["_law_made", "_law_way", "_law_items"]) fun _ _ _ _ _ _ us hl => match us, hl with | [_, _, _], _ => rfl
  obtain ⟨d_law_result, F0_law_result⟩ := DH.says_fn c 29 (d := df_law_result) rfl
  have F_law_result : Fun K "_law_result" "_law_result" s_law_result (He.ga K "_law_result") d_law_result := DH.fun_of F0_law_result
  have b_law_result := F_law_result.binds (ps := ["_law_made", "_law_way", "_law_items"]) fun _ _ _ _ _ _ us hl => match us, hl with | [_, _, _], _ => rfl
  obtain ⟨d_law, F0_law⟩ := DH.says_fn c 30 (d := df_law) rfl
  have F_law : Fun K "law" "law" s_law (He.ga K "law") d_law := DH.fun_of F0_law
  have b_law := F_law.binds (ps := ["_law_script"]) fun _ _ _ _ _ _ us hl => match us, hl with | [_], _ => rfl
  obtain ⟨e_BadPair, S_BadPair⟩ := DH.says_sup c (prog := (PySem.Challenge.rw_bindspan_k05_captures_refuse).prog) rfl 0 (d := q_BadPair) rfl t_BadPair
  obtain ⟨t_LETTERS, g_LETTERS⟩ := He.str_ok X G (DH.says_fa c 54 rfl)
  obtain ⟨t_DIGITS, g_DIGITS⟩ := He.str_ok X G (DH.says_fa c 55 rfl)
  obtain ⟨t_LONGEST, g_LONGEST⟩ := He.int_ok X G (DH.says_fa c 56 rfl)
  obtain ⟨t_MOST_NUMBER, g_MOST_NUMBER⟩ := He.int_ok X G (DH.says_fa c 58 rfl)
  have x0 : exs K = true := (DH.says_b c).2.2.2
  unfold exs at x0
  obtain ⟨y0, x1⟩ := DH.and2 x0
  obtain ⟨y1, x2⟩ := DH.and2 x1
  obtain ⟨y2, x3⟩ := DH.and2 x2
  obtain ⟨y3, x4⟩ := DH.and2 x3
  have y4 := x4
  have T : Txt (PySem.Challenge.rw_bindspan_k05_captures_refuse).prog K mg ({ C_Captures := He.ga K "Captures", C_BadPair := He.ga K "BadPair", C_BadCaptures := He.ga K "BadCaptures", C_BindspanError := He.ga K "BindspanError", C_NoKeeping := He.ga K "NoKeeping", C_TooMany := He.ga K "TooMany", f_is_word := (He.ga K "is_word"), d_is_word := d_is_word, f_is_identifier := (He.ga K "is_identifier"), d_is_identifier := d_is_identifier, f_is_pair := (He.ga K "is_pair"), d_is_pair := d_is_pair, f_in_order := (He.ga K "in_order"), d_in_order := d_in_order, f_Captures_init := (He.ma K (He.ga K "Captures") "__init__"), d_Captures_init := d_Captures_init, f_Captures_of := (He5.wf K (He.ga K "Captures") "classmethod" "of"), d_Captures_of := d_Captures_of, f_pairs_of := (He.ga K "pairs_of"), d_pairs_of := d_pairs_of, f_shared_pairs := (He.ga K "shared_pairs"), d_shared_pairs := d_shared_pairs, f_missing_pairs := (He.ga K "missing_pairs"), d_missing_pairs := d_missing_pairs, f_Captures_or := (He.ma K (He.ga K "Captures") "__or__"), d_Captures_or := d_Captures_or, f_Captures_ror := (He.ma K (He.ga K "Captures") "__ror__"), d_Captures_ror := d_Captures_ror, f_Captures_and := (He.ma K (He.ga K "Captures") "__and__"), d_Captures_and := d_Captures_and, f_Captures_rand := (He.ma K (He.ga K "Captures") "__rand__"), d_Captures_rand := d_Captures_rand, f_Captures_sub := (He.ma K (He.ga K "Captures") "__sub__"), d_Captures_sub := d_Captures_sub, f_Captures_rsub := (He.ma K (He.ga K "Captures") "__rsub__"), d_Captures_rsub := d_Captures_rsub, f_Captures_xor := (He.ma K (He.ga K "Captures") "__xor__"), d_Captures_xor := d_Captures_xor, f_Captures_rxor := (He.ma K (He.ga K "Captures") "__rxor__"), d_Captures_rxor := d_Captures_rxor, f_law_tape := (He.ga K "_law_tape"), d_law_tape := d_law_tape, f_law_draw := (He.ga K "_law_draw"), d_law_draw := d_law_draw, f_law_kept := (He.ga K "_law_kept"), d_law_kept := d_law_kept, f_law_signs := (He.ga K "_law_signs"), d_law_signs := d_law_signs, f_law_spelled := (He.ga K "_law_spelled"), d_law_spelled := d_law_spelled, f_law_ident := (He.ga K "_law_ident"), d_law_ident := d_law_ident, f_law_number := (He.ga K "_law_number"), d_law_number := d_law_number, f_law_ascending := (He.ga K "_law_ascending"), d_law_ascending := d_law_ascending, f_law_bad_number := (He.ga K "_law_bad_number"), d_law_bad_number := d_law_bad_number, f_law_bad_ident := (He.ga K "_law_bad_ident"), d_law_bad_ident := d_law_bad_ident, f_law_item := (He.ga K "_law_item"), d_law_item := d_law_item, f_law_family := (He.ga K "_law_family"), d_law_family := d_law_family, f_law_joined := (He.ga K "_law_joined"), d_law_joined := d_law_joined, f_law_result := (He.ga K "_law_result"), d_law_result := d_law_result, f_law := (He.ga K "law"), d_law := d_law, t_LETTERS := t_LETTERS, t_DIGITS := t_DIGITS, t_LONGEST := t_LONGEST, p_KEPT := He.ga K "KEPT", t_MOST_NUMBER := t_MOST_NUMBER, e_Captures := He.dflAt ("Captures", some "__init__") 0 K, p_Captures_of := He.ma K (He.ga K "Captures") "of" } : Ad) :=
    { F_is_word := F_is_word,
      b_is_word := b_is_word,
      g_is_word := He.glo_ok X G (DH.says_fa c 0 rfl),
      k_is_word := F_is_word.kp,
      F_is_identifier := F_is_identifier,
      b_is_identifier := b_is_identifier,
      g_is_identifier := He.glo_ok X G (DH.says_fa c 1 rfl),
      k_is_identifier := F_is_identifier.kp,
      F_is_pair := F_is_pair,
      b_is_pair := b_is_pair,
      g_is_pair := He.glo_ok X G (DH.says_fa c 2 rfl),
      k_is_pair := F_is_pair.kp,
      F_in_order := F_in_order,
      b_in_order := b_in_order,
      g_in_order := He.glo_ok X G (DH.says_fa c 3 rfl),
      k_in_order := F_in_order.kp,
      F_Captures_init := F_Captures_init,
      b_Captures_init := b_Captures_init,
      mk_Captures := He.mkr_ok (DH.says_fa c 45 rfl),
      F_Captures_of := F_Captures_of,
      cm_Captures_of := DH.cm_ok y1,
      F_pairs_of := F_pairs_of,
      b_pairs_of := b_pairs_of,
      g_pairs_of := He.glo_ok X G (DH.says_fa c 4 rfl),
      k_pairs_of := F_pairs_of.kp,
      F_shared_pairs := F_shared_pairs,
      b_shared_pairs := b_shared_pairs,
      g_shared_pairs := He.glo_ok X G (DH.says_fa c 5 rfl),
      k_shared_pairs := F_shared_pairs.kp,
      F_missing_pairs := F_missing_pairs,
      b_missing_pairs := b_missing_pairs,
      g_missing_pairs := He.glo_ok X G (DH.says_fa c 6 rfl),
      k_missing_pairs := F_missing_pairs.kp,
      F_Captures_or := F_Captures_or,
      b_Captures_or := b_Captures_or,
      m_Captures_or := He.meth_ok (DH.says_fa c 46 rfl),
      F_Captures_ror := F_Captures_ror,
      b_Captures_ror := b_Captures_ror,
      m_Captures_ror := He.meth_ok (DH.says_fa c 47 rfl),
      F_Captures_and := F_Captures_and,
      b_Captures_and := b_Captures_and,
      m_Captures_and := He.meth_ok (DH.says_fa c 48 rfl),
      F_Captures_rand := F_Captures_rand,
      b_Captures_rand := b_Captures_rand,
      m_Captures_rand := He.meth_ok (DH.says_fa c 49 rfl),
      F_Captures_sub := F_Captures_sub,
      b_Captures_sub := b_Captures_sub,
      m_Captures_sub := He.meth_ok (DH.says_fa c 50 rfl),
      F_Captures_rsub := F_Captures_rsub,
      b_Captures_rsub := b_Captures_rsub,
      m_Captures_rsub := He.meth_ok (DH.says_fa c 51 rfl),
      F_Captures_xor := F_Captures_xor,
      b_Captures_xor := b_Captures_xor,
      m_Captures_xor := He.meth_ok (DH.says_fa c 52 rfl),
      F_Captures_rxor := F_Captures_rxor,
      b_Captures_rxor := b_Captures_rxor,
      m_Captures_rxor := He.meth_ok (DH.says_fa c 53 rfl),
      F_law_tape := F_law_tape,
      b_law_tape := b_law_tape,
      g_law_tape := He.glo_ok X G (DH.says_fa c 7 rfl),
      k_law_tape := F_law_tape.kp,
      F_law_draw := F_law_draw,
      b_law_draw := b_law_draw,
      g_law_draw := He.glo_ok X G (DH.says_fa c 8 rfl),
      k_law_draw := F_law_draw.kp,
      F_law_kept := F_law_kept,
      b_law_kept := b_law_kept,
      g_law_kept := He.glo_ok X G (DH.says_fa c 9 rfl),
      k_law_kept := F_law_kept.kp,
      F_law_signs := F_law_signs,
      b_law_signs := b_law_signs,
      g_law_signs := He.glo_ok X G (DH.says_fa c 10 rfl),
      k_law_signs := F_law_signs.kp,
      F_law_spelled := F_law_spelled,
      b_law_spelled := b_law_spelled,
      g_law_spelled := He.glo_ok X G (DH.says_fa c 11 rfl),
      k_law_spelled := F_law_spelled.kp,
      F_law_ident := F_law_ident,
      b_law_ident := b_law_ident,
      g_law_ident := He.glo_ok X G (DH.says_fa c 12 rfl),
      k_law_ident := F_law_ident.kp,
      F_law_number := F_law_number,
      b_law_number := b_law_number,
      g_law_number := He.glo_ok X G (DH.says_fa c 13 rfl),
      k_law_number := F_law_number.kp,
      F_law_ascending := F_law_ascending,
      b_law_ascending := b_law_ascending,
      g_law_ascending := He.glo_ok X G (DH.says_fa c 14 rfl),
      k_law_ascending := F_law_ascending.kp,
      F_law_bad_number := F_law_bad_number,
      b_law_bad_number := b_law_bad_number,
      g_law_bad_number := He.glo_ok X G (DH.says_fa c 15 rfl),
      k_law_bad_number := F_law_bad_number.kp,
      F_law_bad_ident := F_law_bad_ident,
      b_law_bad_ident := b_law_bad_ident,
      g_law_bad_ident := He.glo_ok X G (DH.says_fa c 16 rfl),
      k_law_bad_ident := F_law_bad_ident.kp,
      F_law_item := F_law_item,
      b_law_item := b_law_item,
      g_law_item := He.glo_ok X G (DH.says_fa c 17 rfl),
      k_law_item := F_law_item.kp,
      F_law_family := F_law_family,
      b_law_family := b_law_family,
      g_law_family := He.glo_ok X G (DH.says_fa c 18 rfl),
      k_law_family := F_law_family.kp,
      F_law_joined := F_law_joined,
      b_law_joined := b_law_joined,
      g_law_joined := He.glo_ok X G (DH.says_fa c 19 rfl),
      k_law_joined := F_law_joined.kp,
      F_law_result := F_law_result,
      b_law_result := b_law_result,
      g_law_result := He.glo_ok X G (DH.says_fa c 20 rfl),
      k_law_result := F_law_result.kp,
      F_law := F_law,
      b_law := b_law,
      g_law := He.glo_ok X G (DH.says_fa c 21 rfl),
      k_law := F_law.kp,
      cr_Captures := DH.cr_ok y2,
      c_Captures := He.cls_ok (DH.says_fa c 43 rfl),
      i_Captures := DH.isi_of (He.cls_ok (DH.says_fa c 43 rfl)) y0,
      g_Captures := He.glo_ok X G (DH.says_fa c 22 rfl),
      n_Captures_pairs := He.noat_ok (DH.says_fa c 44 rfl),
      g_BadPair := He.glo_ok X G (DH.says_fa c 23 rfl),
      g_BadCaptures := He.glo_ok X G (DH.says_fa c 24 rfl),
      g_BindspanError := He.glo_ok X G (DH.says_fa c 25 rfl),
      g_NoKeeping := He.glo_ok X G (DH.says_fa c 26 rfl),
      g_TooMany := He.glo_ok X G (DH.says_fa c 27 rfl),
      S_BadPair := ⟨_, e_BadPair, S_BadPair⟩,
      E := ef_of rfl rfl rfl rfl rfl ⟨_, e_BadPair, S_BadPair⟩ (DH.and2 y4).1,
      op_or := (DH.ops_ok (exO_ok (DH.and2 y4).2).1).1,
      opB_or := (DH.ops_ok (exO_ok (DH.and2 y4).2).1).2.1,
      opL_or := (DH.ops_ok (exO_ok (DH.and2 y4).2).1).2.2.1,
      opP_or := (DH.ops_ok (exO_ok (DH.and2 y4).2).1).2.2.2,
      op_and := (DH.ops_ok (exO_ok (DH.and2 y4).2).2.1).1,
      opB_and := (DH.ops_ok (exO_ok (DH.and2 y4).2).2.1).2.1,
      opL_and := (DH.ops_ok (exO_ok (DH.and2 y4).2).2.1).2.2.1,
      opP_and := (DH.ops_ok (exO_ok (DH.and2 y4).2).2.1).2.2.2,
      op_sub := (DH.ops_ok (exO_ok (DH.and2 y4).2).2.2.1).1,
      opB_sub := (DH.ops_ok (exO_ok (DH.and2 y4).2).2.2.1).2.1,
      opL_sub := (DH.ops_ok (exO_ok (DH.and2 y4).2).2.2.1).2.2.1,
      opP_sub := (DH.ops_ok (exO_ok (DH.and2 y4).2).2.2.1).2.2.2,
      op_xor := (DH.ops_ok (exO_ok (DH.and2 y4).2).2.2.2.1).1,
      opB_xor := (DH.ops_ok (exO_ok (DH.and2 y4).2).2.2.2.1).2.1,
      opL_xor := (DH.ops_ok (exO_ok (DH.and2 y4).2).2.2.2.1).2.2.1,
      opP_xor := (DH.ops_ok (exO_ok (DH.and2 y4).2).2.2.2.1).2.2.2,
      kit_lC := of_decide_eq_true (exO_ok (DH.and2 y4).2).2.2.2.2.1,
      kit_pC := of_decide_eq_true (exO_ok (DH.and2 y4).2).2.2.2.2.2,
      z_set := He.free_ok X G (DH.says_fa c 28 rfl),
      z_min := He.free_ok X G (DH.says_fa c 29 rfl),
      z_max := He.free_ok X G (DH.says_fa c 30 rfl),
      z_super := He.free_ok X G (DH.says_fa c 31 rfl),
      z_ValueError := He.free_ok X G (DH.says_fa c 32 rfl),
      z_len := He.free_ok X G (DH.says_fa c 33 rfl),
      z_int := He.free_ok X G (DH.says_fa c 34 rfl),
      z_str := He.free_ok X G (DH.says_fa c 35 rfl),
      z_all := He.free_ok X G (DH.says_fa c 36 rfl),
      z_tuple := He.free_ok X G (DH.says_fa c 37 rfl),
      z_list := He.free_ok X G (DH.says_fa c 38 rfl),
      z_sorted := He.free_ok X G (DH.says_fa c 39 rfl),
      z_isinstance := He.free_ok X G (DH.says_fa c 40 rfl),
      z_range := He.free_ok X G (DH.says_fa c 41 rfl),
      z_bool := He.free_ok X G (DH.says_fa c 42 rfl),
      g_LETTERS := g_LETTERS,
      g_DIGITS := g_DIGITS,
      g_LONGEST := g_LONGEST,
      g_KEPT := He.glo_ok X G (DH.says_fa c 57 rfl),
      r_KEPT := fun nf H => .tup (He.tupB_ok y3 H) (by unfold tv_KEPT; simp only [List.map_cons, List.map_nil]; repeat first | exact Rels.nil | refine Rels.cons (Rel.str _) ?_),
      g_MOST_NUMBER := g_MOST_NUMBER }
  have bl : ∀ (s : Shared) (v : Value), BindsTo s d_law ⟨[v], []⟩ [("_law_script", v)] := by
    obtain ⟨oc, od, kV, doc, pm, an, cdv, ct, osl, e, _, _⟩ := F_law.ex
    rw [e]
    exact fun s v => .of_eq rfl
  exact ⟨_, _, bl, fun base _ _ => (ok_law T).imp fun _ _ _ _ q => ⟨fun P hP => (by cases hP), q⟩⟩) only [bxI])
end K05
open PySem PySem.W PySem.Calls PyProof.Rows
theorem PySem.Challenge.cw_bindspan_k05_captures_refuse_holds : PySem.Challenge.rw_bindspan_k05_captures_refuse.Holds := by
  w_on; o_law
  refine K05.topK ?hw ?hc
  case hw => w_witness2
  case hc =>
    refine L2.walk_ofE (l := PySem.Challenge.rw_bindspan_k05_captures_refuse) (n := 63) (k := 10) (x := "_law_script") (CX := L2.CX0) rfl (by decide) (by kernel_rfl) ⟨rfl, by decide, by decide⟩ ?F (fun _ _ _ _ z => z)
    intro w mg fa h Y G hmg0
    obtain ⟨K, KX, c⟩ := Y
    have hmg : mg ("law" : PySem.Str) = some (.ref fa) := by
      rw [← K05.topN]
      exact hmg0
    obtain ⟨fd, a, hb, hF⟩ := K05.facts (w := w) KX G hmg c
    exact ⟨K, fd, DL.toSp K (K05.nf a) 1 (K05.S_law a), KX, hb, fun H b ns hl hO hS => DL.toSp_start hO hS ⟨ns, rfl, hl, rfl⟩, hF⟩
#print axioms PySem.Challenge.cw_bindspan_k05_captures_refuse_holds
