import PyProof.Rows.All
import Wide.All
import OpenK.AllK
import Wide.FinOn
import HandS.ForMost
import HandS.IsInst
import HandS.Wide
import HandS.WideBits
import HandS.TupAny
import HandS.Zip
import HandS.Deep
import HandS.WordsDict
import HandS.Walk
import HandS.TupLe
import HandS.Rev
import HandS.Defaults
import HandS.Head0
import HandS.Head1
import HandS.Head2
import HandS.HeadEnd
import HandS.HeadHook1
import HandS.HeadHook2
import HandS.More
import HandS.EndBits
import HandS.DictComp
import HandS.FStr
import HandS.SortKw
import HandS.Lambda
import HandS.CallLocal
import HandS.TryMany
import HandS.ExcField
import KE.KExcSuper
import HandS.ExcInit
import HandS.Sort
import KE.DataCmp
import HandS.Dict
import KE.KEqNest
import HandS.TupMul
import KE.SortData
import HandS.Iter
import HandS.Conv
import HandS.Style
import HandS.ExcOwn
import HandS.WordsExc
import PyProof.StrLawsTight
import PyProof.StrLawsChain
import PyProof.Rows.StrItems
import KE.IntTextLaws
import KE.KIntText
import PyProof.Rows.StrSplitJoin
import PySem.Challenge.RW_namelease_k72_whole_texts_of_versions
set_option Elab.async false
set_option linter.all false
set_option autoImplicit false
set_option maxRecDepth 100000
set_option maxHeartbeats 0
namespace Z
open PySem PySem.Spec L2
open PyProof.Rows hiding St

/-! ## the head's looks: what the module holds -/
abbrev D := PyData
def datsB (f : D → Value → Bool) : List D → List Value → Bool
  | [], [] => true
  | d :: ds, u :: us => f d u && datsB f ds us
  | _, _ => false
def datB (K : PySem.W.Frag) : Nat → D → Value → Bool
  | _, .none, u => He.relB .non u
  | _, .bool b, u => He.relB (.bl b) u
  | _, .int i, u => He.relB (.int i) u
  | _, .str s, u => PyData.strOk s && He.relB (.str s) u
  | n + 1, .tuple ds, .ref a => match K.lookup a with
    | some ⟨.type c, _, .seq its _, _⟩ => decide (c = "tuple") && (decide (its.size ≤ sizeLine) && datsB (datB K n) ds its.toList)
    | _ => false
  | _, _, _ => false
def datG (K : PySem.W.Frag) (q : Str × D) : Bool := match PySem.W.nsIn K mainGlobals q.1 with
  | some (some u) => datB K 6 q.2 u
  | _ => false
def exC (cs : List (Str × D)) (K : PySem.W.Frag) : Bool := cs.all (datG K)
/-! ## the head's looks -/
open He in
def hookC (n : Nat) (fa : List Fa) (fn : List DefD) (cs : List (Str × D)) : PySem.W.Hook where
  α := AlD × Bool
  obs := fun s => (obsDG n fa fn s.heap.get?, exC cs (frG s.heap.get? (asD s.heap.get? n)))
  val := fun _ => (valD fn, true)
  says := fun _ h => ∃ K : PySem.W.Frag, K.In h ∧ SaysD fa fn K ∧ exC cs K = true
  of := fun _ _ e => ⟨_, frG_in, congrArg Prod.fst e, congrArg Prod.snd e⟩
  keeps := fun _ _ _ ⟨K, hK, c⟩ k => ⟨K, PySem.W.Frag.In.keeps hK k, c⟩
open He in
def obC (n : Nat) (fa : List Fa) (fn : List DefD) (cs : List (Str × D)) (g : Addr → Option Obj) : AlD × Bool := (obsDG n fa fn g, exC cs (frG g (asD g n)))
open He in
theorem obC_eq {n : Nat} {fa : List Fa} {fn : List DefD} {cs : List (Str × D)} {g : Addr → Option Obj} {s : Shared} (h : ∀ a, g a = s.heap.get? a) : obC n fa fn cs g = (hookC n fa fn cs).obs s := by
  have e : g = s.heap.get? := funext h
  rw [e] <;> rfl
theorem exC_at {cs : List (Str × D)} {K : PySem.W.Frag} (h : exC cs K = true) (i : Nat) {q : Str × D} (e : cs[i]? = some q := by rfl) : datG K q = true := List.all_eq_true.mp h q (List.mem_of_getElem? e)
end Z
namespace Z
open PySem PySem.Spec L2
open PyProof.Rows hiding St
open He

/-! ## the head's looks: own errors with an __init__ that says super().__init__() -/
structure ClsD where
  x : Str
  qual : Str
  fld : Str
  gv : Str
  st : Stmt
abbrev veL : List Value := [.type "ValueError", .type "Exception", .type "BaseException", .type "object"]
def ClsD.C (K : PySem.W.Frag) (d : ClsD) : Addr := ga K d.x
def ClsD.fI (K : PySem.W.Frag) (d : ClsD) : Addr := ma K (ga K d.x) "__init__"
abbrev IniW : Type := Option (Str × Str × Arguments × FuncBody × Scope × Addr × List Str × Addr)
def iniW (K : PySem.W.Frag) (d : ClsD) : IniW := match K.lookup (d.fI K) with
  | some ⟨_, _, .func fd, _⟩ => some (fd.name, fd.qualname, fd.params, fd.body, fd.scope, fd.globals, fd.closure.map (·.1), fd.builtins)
  | _ => none
def ClsD.val (d : ClsD) : IniW := some ("__init__", d.qual, defArgs d.st, .stmts (defBody d.st), defScope d.st, mainGlobals, ["__class__"], builtinsNs)
def codB (K : PySem.W.Frag) (file : Str) : Value → Bool
  | .ref c => (match K.lookup c with
    | some ⟨_, _, .fields vs, _⟩ => (match vs.toList with
      | _ :: _ :: .str f _ :: _ => file == f
      | _ => false)
    | _ => false)
  | _ => false
def celB (K : PySem.W.Frag) (C : Addr) : List (Str × Addr) → Bool
  | [(_, c)] => (match K.lookup c with
    | some ⟨_, _, .cell (some (.ref a)), _⟩ => a == C
    | _ => false)
  | _ => false
def noneB : Value → Bool
  | .none => true
  | _ => false
def fnB (K : PySem.W.Frag) (file : Str) (d : ClsD) : Bool := match K.lookup (d.fI K) with
  | some ⟨.type c, _, .func fd, _⟩ => decide (c = "function") && (PySem.W.codeIn K fd.code d.qual && (codB K file fd.code && (celB K (d.C K) fd.closure && noneB fd.defaults)))
  | _ => false
def clsB (K : PySem.W.Frag) (C : Addr) : Bool := match K.lookup C with
  | some ⟨.type c, _, .cls cd, sl⟩ => decide (c = "type") && (cd.hasDict && (match cd.mro, sl.toList with
    | .ref C' :: bm, [_, _, _, _, some (.builtin n), _] => C' == C && (n == "ValueError.__new__" && (!cd.hasDel && PySem.HandSPX.refsVE bm))
    | _, _ => false))
  | _ => false
def ClsD.ok (K : PySem.W.Frag) (file : Str) (d : ClsD) : Bool :=
  eqO (PySem.W.nsIn K mainGlobals d.x) (some (some (.ref (d.C K)))) && (eqO (PySem.W.findIn K (.ref (d.C K)) "__init__") (some (some (.ref (d.fI K)))) && (fnB K file d && (clsB K (d.C K) && (PySem.W.excInitIn K (d.C K) veL "ValueError.__new__" &&
  (eqO (PySem.W.findIn K (.ref (d.C K)) d.fld) (some none) && (eqO (PySem.W.ks_superIn K (d.C K) (d.C K) "__init__") (some (some (.builtin "ValueError.__init__"))) && (decide (PySem.W.subIn K (.ref (d.C K)) (.type "ValueError") = some true) &&
  (decide (PySem.W.mroIn K (d.C K) (.ref (d.C K)) = some true) && (eqO (PySem.W.nsIn K cStatics "thirdparty.any") (some none) && (eqO (PySem.W.findIn K (.ref (d.C K)) "__setattr__") (some (some (.builtin "object.__setattr__"))) &&
  (decide (PySem.W.subIn K (.ref (d.C K)) (.type "BaseException") = some true) && (decide (PySem.W.typeIn K (.ref (d.C K)) = some (.type "type")) && (PySem.W.keepIn K (.ref (d.C K)) && (xfB K (d.C K) &&
  (decide (PySem.W.exmOne K (.ref (d.C K)) (.ref (d.C K)) = some true) && eqO (PySem.W.nsIn K mainGlobals "super") (some none))))))))))))))))
abbrev AlX : Type := AlD × Bool × Bool × List IniW
def obsX (file : Str) (fa : List Fa) (fn : List DefD) (cs : List (Str × D)) (es : List ClsD) (K : PySem.W.Frag) : AlX := (obsD fa fn K, exC cs K, es.all (ClsD.ok K file), es.map (iniW K))
def frX (g : Addr → Option Obj) (n : Nat) : PySem.W.Frag := frG g (asD g n ++ [cStatics])
def hookX (n : Nat) (file : Str) (fa : List Fa) (fn : List DefD) (cs : List (Str × D)) (es : List ClsD) : PySem.W.Hook where
  α := AlX
  obs := fun s => obsX file fa fn cs es (frX s.heap.get? n)
  val := fun _ => (valD fn, true, true, es.map ClsD.val)
  says := fun _ h => ∃ K : PySem.W.Frag, K.In h ∧ SaysD fa fn K ∧ exC cs K = true ∧ es.all (ClsD.ok K file) = true ∧ es.map (iniW K) = es.map ClsD.val
  of := fun _ s e => ⟨frX s.heap.get? n, frG_in, congrArg (fun z : AlX => z.1) e, congrArg (fun z : AlX => z.2.1) e, congrArg (fun z : AlX => z.2.2.1) e, congrArg (fun z : AlX => z.2.2.2) e⟩
  keeps := fun _ _ _ ⟨K, hK, c⟩ k => ⟨K, PySem.W.Frag.In.keeps hK k, c⟩
def obX (n : Nat) (file : Str) (fa : List Fa) (fn : List DefD) (cs : List (Str × D)) (es : List ClsD) (g : Addr → Option Obj) : AlX := obsX file fa fn cs es (frX g n)
theorem obX_eq {n : Nat} {file : Str} {fa : List Fa} {fn : List DefD} {cs : List (Str × D)} {es : List ClsD} {g : Addr → Option Obj} {s : Shared} (h : ∀ a, g a = s.heap.get? a) : obX n file fa fn cs es g = (hookX n file fa fn cs es).obs s := by
  have e : g = s.heap.get? := funext h
  rw [e] <;> rfl
/-- the first def of a class's body -/
def initOf : Stmt → Stmt
  | .ClassDef _ _ _ body _ _ _ _ _ _ _ => body.getD 0 (.Pass ⟨0, 0, 0, 0⟩)
  | _ => .Pass ⟨0, 0, 0, 0⟩
end Z
namespace K72
open PySem PySem.Spec L2 Z
open PyProof.Rows hiding St
abbrev row : PySem.W.OpenRow := PySem.W.OpenLaw.row PySem.Challenge.rw_namelease_k72_whole_texts_of_versions
def tp (i : Nat) : Stmt := PySem.Challenge.pw_namelease_k72_whole_texts_of_versions.main.body.getD i (.Pass ⟨0, 0, 0, 0⟩)
abbrev s_l_well : Stmt := tp 51
abbrev s_host_text : Stmt := tp 35
abbrev s_row_text : Stmt := tp 40
abbrev s_version_text_of : Stmt := tp 41
abbrev s_is_number : Stmt := tp 7
abbrev s_is_up_to : Stmt := tp 8
abbrev s_is_tuple_up_to : Stmt := tp 11
abbrev s_is_tuple_of : Stmt := tp 12
abbrev s_is_pair : Stmt := tp 13
abbrev s_are_rising : Stmt := tp 14
abbrev s_is_name : Stmt := tp 9
abbrev s_are_unlike : Stmt := tp 15
abbrev s_is_text : Stmt := tp 10
abbrev s_is_host : Stmt := tp 20
abbrev s_are_hosts : Stmt := tp 22
abbrev s_is_entry : Stmt := tp 24
abbrev s_is_inner_host : Stmt := tp 21
abbrev s_is_glue : Stmt := tp 23
abbrev s_is_glue_row : Stmt := tp 29
abbrev s_are_rows : Stmt := tp 30
abbrev s_is_version_of : Stmt := tp 31
abbrev s_check_version : Stmt := tp 47
abbrev s_version_text : Stmt := tp 48
abbrev s_number_in : Stmt := tp 34
abbrev s_serial_in : Stmt := tp 42
abbrev s_host_in : Stmt := tp 36
abbrev s_row_in : Stmt := tp 43
abbrev s_rows_and : Stmt := tp 44
abbrev s_read_lines : Stmt := tp 45
abbrev s_read_version : Stmt := tp 49
abbrev s_l_take : Stmt := tp 52
abbrev s_l_same : Stmt := tp 54
abbrev s_l_of : Stmt := tp 53
abbrev s_l_rising : Stmt := tp 60
abbrev s_l_names : Stmt := tp 59
abbrev s_l_hosts : Stmt := tp 61
abbrev s_l_version : Stmt := tp 62
abbrev s_l_text_of : Stmt := tp 63
abbrev s_l_asked : Stmt := tp 68
abbrev s_l_is_name : Stmt := tp 56
abbrev s_l_are_hosts : Stmt := tp 57
abbrev s_l_are_rows : Stmt := tp 58
abbrev s_l_host_of : Stmt := tp 64
abbrev s_l_row_of : Stmt := tp 65
abbrev s_l_serial_of : Stmt := tp 66
abbrev s_l_read : Stmt := tp 67
abbrev s_l_is_told : Stmt := tp 69
abbrev s_l_bent : Stmt := tp 70
abbrev s_l_edges : Stmt := tp 71
abbrev s_l_right : Stmt := tp 72
abbrev s_law : Stmt := tp 73
def d_l_well : He.DefD := ⟨("_law_well", none), "_law_well", "_law_well", defArgs s_l_well, defBody s_l_well, defScope s_l_well, [], []⟩
def d_host_text : He.DefD := ⟨("host_text", none), "host_text", "host_text", defArgs s_host_text, defBody s_host_text, defScope s_host_text, [], []⟩
def d_row_text : He.DefD := ⟨("row_text", none), "row_text", "row_text", defArgs s_row_text, defBody s_row_text, defScope s_row_text, [], []⟩
def d_version_text_of : He.DefD := ⟨("version_text_of", none), "version_text_of", "version_text_of", defArgs s_version_text_of, defBody s_version_text_of, defScope s_version_text_of, [], []⟩
def d_is_number : He.DefD := ⟨("is_number", none), "is_number", "is_number", defArgs s_is_number, defBody s_is_number, defScope s_is_number, [], []⟩
def d_is_up_to : He.DefD := ⟨("is_up_to", none), "is_up_to", "is_up_to", defArgs s_is_up_to, defBody s_is_up_to, defScope s_is_up_to, [], []⟩
def d_is_tuple_up_to : He.DefD := ⟨("is_tuple_up_to", none), "is_tuple_up_to", "is_tuple_up_to", defArgs s_is_tuple_up_to, defBody s_is_tuple_up_to, defScope s_is_tuple_up_to, [], []⟩
def d_is_tuple_of : He.DefD := ⟨("is_tuple_of", none), "is_tuple_of", "is_tuple_of", defArgs s_is_tuple_of, defBody s_is_tuple_of, defScope s_is_tuple_of, [], []⟩
def d_is_pair : He.DefD := ⟨("is_pair", none), "is_pair", "is_pair", defArgs s_is_pair, defBody s_is_pair, defScope s_is_pair, [], []⟩
def d_are_rising : He.DefD := ⟨("are_rising", none), "are_rising", "are_rising", defArgs s_are_rising, defBody s_are_rising, defScope s_are_rising, [], []⟩
def d_is_name : He.DefD := ⟨("is_name", none), "is_name", "is_name", defArgs s_is_name, defBody s_is_name, defScope s_is_name, [], []⟩
def d_are_unlike : He.DefD := ⟨("are_unlike", none), "are_unlike", "are_unlike", defArgs s_are_unlike, defBody s_are_unlike, defScope s_are_unlike, [], []⟩
def d_is_text : He.DefD := ⟨("is_text", none), "is_text", "is_text", defArgs s_is_text, defBody s_is_text, defScope s_is_text, [], []⟩
def d_is_host : He.DefD := ⟨("is_host", none), "is_host", "is_host", defArgs s_is_host, defBody s_is_host, defScope s_is_host, [], []⟩
def d_are_hosts : He.DefD := ⟨("are_hosts", none), "are_hosts", "are_hosts", defArgs s_are_hosts, defBody s_are_hosts, defScope s_are_hosts, [], []⟩
def d_is_entry : He.DefD := ⟨("is_entry", none), "is_entry", "is_entry", defArgs s_is_entry, defBody s_is_entry, defScope s_is_entry, [], []⟩
def d_is_inner_host : He.DefD := ⟨("is_inner_host", none), "is_inner_host", "is_inner_host", defArgs s_is_inner_host, defBody s_is_inner_host, defScope s_is_inner_host, [], []⟩
def d_is_glue : He.DefD := ⟨("is_glue", none), "is_glue", "is_glue", defArgs s_is_glue, defBody s_is_glue, defScope s_is_glue, [], []⟩
def d_is_glue_row : He.DefD := ⟨("is_glue_row", none), "is_glue_row", "is_glue_row", defArgs s_is_glue_row, defBody s_is_glue_row, defScope s_is_glue_row, [], []⟩
def d_are_rows : He.DefD := ⟨("are_rows", none), "are_rows", "are_rows", defArgs s_are_rows, defBody s_are_rows, defScope s_are_rows, [], []⟩
def d_is_version_of : He.DefD := ⟨("is_version_of", none), "is_version_of", "is_version_of", defArgs s_is_version_of, defBody s_is_version_of, defScope s_is_version_of, [], []⟩
def d_check_version : He.DefD := ⟨("check_version", none), "check_version", "check_version", defArgs s_check_version, defBody s_check_version, defScope s_check_version, [], []⟩
def d_version_text : He.DefD := ⟨("version_text", none), "version_text", "version_text", defArgs s_version_text, defBody s_version_text, defScope s_version_text, [], []⟩
def d_number_in : He.DefD := ⟨("number_in", none), "number_in", "number_in", defArgs s_number_in, defBody s_number_in, defScope s_number_in, [], []⟩
def d_serial_in : He.DefD := ⟨("serial_in", none), "serial_in", "serial_in", defArgs s_serial_in, defBody s_serial_in, defScope s_serial_in, [], []⟩
def d_host_in : He.DefD := ⟨("host_in", none), "host_in", "host_in", defArgs s_host_in, defBody s_host_in, defScope s_host_in, [], []⟩
def d_row_in : He.DefD := ⟨("row_in", none), "row_in", "row_in", defArgs s_row_in, defBody s_row_in, defScope s_row_in, [], []⟩
def d_rows_and : He.DefD := ⟨("rows_and", none), "rows_and", "rows_and", defArgs s_rows_and, defBody s_rows_and, defScope s_rows_and, [], []⟩
def d_read_lines : He.DefD := ⟨("read_lines", none), "read_lines", "read_lines", defArgs s_read_lines, defBody s_read_lines, defScope s_read_lines, [], []⟩
def d_read_version : He.DefD := ⟨("read_version", none), "read_version", "read_version", defArgs s_read_version, defBody s_read_version, defScope s_read_version, [], []⟩
def d_l_take : He.DefD := ⟨("_law_take", none), "_law_take", "_law_take", defArgs s_l_take, defBody s_l_take, defScope s_l_take, [], []⟩
def d_l_same : He.DefD := ⟨("_law_same", none), "_law_same", "_law_same", defArgs s_l_same, defBody s_l_same, defScope s_l_same, [], []⟩
def d_l_of : He.DefD := ⟨("_law_of", none), "_law_of", "_law_of", defArgs s_l_of, defBody s_l_of, defScope s_l_of, [], []⟩
def d_l_rising : He.DefD := ⟨("_law_rising", none), "_law_rising", "_law_rising", defArgs s_l_rising, defBody s_l_rising, defScope s_l_rising, [], []⟩
def d_l_names : He.DefD := ⟨("_law_names", none), "_law_names", "_law_names", defArgs s_l_names, defBody s_l_names, defScope s_l_names, [], []⟩
def d_l_hosts : He.DefD := ⟨("_law_hosts", none), "_law_hosts", "_law_hosts", defArgs s_l_hosts, defBody s_l_hosts, defScope s_l_hosts, [], []⟩
def d_l_version : He.DefD := ⟨("_law_version", none), "_law_version", "_law_version", defArgs s_l_version, defBody s_l_version, defScope s_l_version, [], []⟩
def d_l_text_of : He.DefD := ⟨("_law_text_of", none), "_law_text_of", "_law_text_of", defArgs s_l_text_of, defBody s_l_text_of, defScope s_l_text_of, [], []⟩
def d_l_asked : He.DefD := ⟨("_law_asked", none), "_law_asked", "_law_asked", defArgs s_l_asked, defBody s_l_asked, defScope s_l_asked, [], []⟩
def d_l_is_name : He.DefD := ⟨("_law_is_name", none), "_law_is_name", "_law_is_name", defArgs s_l_is_name, defBody s_l_is_name, defScope s_l_is_name, [], []⟩
def d_l_are_hosts : He.DefD := ⟨("_law_are_hosts", none), "_law_are_hosts", "_law_are_hosts", defArgs s_l_are_hosts, defBody s_l_are_hosts, defScope s_l_are_hosts, [], []⟩
def d_l_are_rows : He.DefD := ⟨("_law_are_rows", none), "_law_are_rows", "_law_are_rows", defArgs s_l_are_rows, defBody s_l_are_rows, defScope s_l_are_rows, [], []⟩
def d_l_host_of : He.DefD := ⟨("_law_host_of", none), "_law_host_of", "_law_host_of", defArgs s_l_host_of, defBody s_l_host_of, defScope s_l_host_of, [], []⟩
def d_l_row_of : He.DefD := ⟨("_law_row_of", none), "_law_row_of", "_law_row_of", defArgs s_l_row_of, defBody s_l_row_of, defScope s_l_row_of, [], []⟩
def d_l_serial_of : He.DefD := ⟨("_law_serial_of", none), "_law_serial_of", "_law_serial_of", defArgs s_l_serial_of, defBody s_l_serial_of, defScope s_l_serial_of, [], []⟩
def d_l_read : He.DefD := ⟨("_law_read", none), "_law_read", "_law_read", defArgs s_l_read, defBody s_l_read, defScope s_l_read, [], []⟩
def d_l_is_told : He.DefD := ⟨("_law_is_told", none), "_law_is_told", "_law_is_told", defArgs s_l_is_told, defBody s_l_is_told, defScope s_l_is_told, [], []⟩
def d_l_bent : He.DefD := ⟨("_law_bent", none), "_law_bent", "_law_bent", defArgs s_l_bent, defBody s_l_bent, defScope s_l_bent, [], []⟩
def d_l_edges : He.DefD := ⟨("_law_edges", none), "_law_edges", "_law_edges", defArgs s_l_edges, defBody s_l_edges, defScope s_l_edges, [], []⟩
def d_l_right : He.DefD := ⟨("_law_right", none), "_law_right", "_law_right", defArgs s_l_right, defBody s_l_right, defScope s_l_right, [], []⟩
def d_law : He.DefD := ⟨("law", none), "law", "law", defArgs s_law, defBody s_law, defScope s_law, [], []⟩
def dl : List He.DefD := [d_l_well, d_host_text, d_row_text, d_version_text_of, d_is_number, d_is_up_to, d_is_tuple_up_to, d_is_tuple_of, d_is_pair, d_are_rising, d_is_name, d_are_unlike, d_is_text, d_is_host, d_are_hosts, d_is_entry, d_is_inner_host, d_is_glue, d_is_glue_row, d_are_rows, d_is_version_of, d_check_version, d_version_text, d_number_in, d_serial_in, d_host_in, d_row_in, d_rows_and, d_read_lines, d_read_version, d_l_take, d_l_same, d_l_of, d_l_rising, d_l_names, d_l_hosts, d_l_version, d_l_text_of, d_l_asked, d_l_is_name, d_l_are_hosts, d_l_are_rows, d_l_host_of, d_l_row_of, d_l_serial_of, d_l_read, d_l_is_told, d_l_bent, d_l_edges, d_l_right, d_law]
def cst : List (Str × D) := [("NO_NAME", (.str "")), ("STAR", (.str "*")), ("SERIAL", (.str "serial")), ("LETTERS", (.str "abcdefghijklmnopqrstuvwxyz")), ("MOST_LETTERS", (.int 8)), ("OUTSIDE", (.str "")), ("MOST_HOSTS", (.int 4)), ("MOST_GLUE", (.int 12)), ("MOST_ROWS", (.int 9)), ("MOST_SERIAL", (.int 999)), ("FIGURES", (.str "0123456789"))]
def fcs : List He.Fa := [.glo "_law_well", .glo "host_text", .glo "row_text", .glo "version_text_of", .glo "is_number", .glo "is_up_to", .glo "is_tuple_up_to", .glo "is_tuple_of", .glo "is_pair", .glo "are_rising", .glo "is_name", .glo "are_unlike", .glo "is_text", .glo "is_host", .glo "are_hosts", .glo "is_entry", .glo "is_inner_host", .glo "is_glue", .glo "is_glue_row", .glo "are_rows", .glo "is_version_of", .glo "check_version", .glo "version_text", .glo "number_in", .glo "serial_in", .glo "host_in", .glo "row_in", .glo "rows_and", .glo "read_lines", .glo "read_version", .glo "_law_take", .glo "_law_same", .glo "_law_of", .glo "_law_rising", .glo "_law_names", .glo "_law_hosts", .glo "_law_version", .glo "_law_text_of", .glo "_law_asked", .glo "_law_is_name", .glo "_law_are_hosts", .glo "_law_are_rows", .glo "_law_host_of", .glo "_law_row_of", .glo "_law_serial_of", .glo "_law_read", .glo "_law_is_told", .glo "_law_bent", .glo "_law_edges", .glo "_law_right", .glo "law", .free "len", .free "abs", .free "max", .free "min", .free "sum", .free "all", .free "any", .free "divmod", .free "int", .free "tuple", .free "list", .free "isinstance", .free "range", .free "enumerate", .free "zip", .free "bool", .free "str", .free "dict", .free "sorted"]
def fileN : Str := PySem.Challenge.pw_namelease_k72_whole_texts_of_versions.main.file
def k_InvalidVersion : ClsD := ⟨"InvalidVersion", "InvalidVersion.__init__", "given", "given", initOf (tp 2)⟩
def k_InvalidText : ClsD := ⟨"InvalidText", "InvalidText.__init__", "index", "index", initOf (tp 3)⟩
def els : List ClsD := [k_InvalidVersion, k_InvalidText]
abbrev hk : PySem.W.Hook := hookX 4 fileN fcs dl cst els
def ob (s : PySem.W.SharedT) : AlX := obX 4 fileN fcs dl cst els (HandSHeadRun.getT s)
theorem ob_eq (s : PySem.W.SharedT) : ob s = hk.obs s.abs := obX_eq (HandSHeadRun.getT_eq s)
def ls0 : List Str := ["LeaseError", "InvalidVersion", "InvalidText", "LETTERS", "MOST_LETTERS", "is_number", "is_up_to", "is_name", "is_text", "is_tuple_up_to", "is_tuple_of", "is_pair", "are_rising", "are_unlike", "OUTSIDE", "MOST_HOSTS", "MOST_GLUE", "is_host", "is_inner_host", "are_hosts"]
def ls1 : List Str := ["is_glue", "is_entry", "MOST_SERIAL", "MOST_ROWS", "NO_NAME", "is_glue_row", "are_rows", "is_version_of", "FIGURES", "number_in", "host_text", "host_in", "SERIAL", "STAR", "row_text", "version_text_of", "serial_in", "row_in", "rows_and", "read_lines"]
def ls2 : List Str := ["check_version", "version_text", "read_version", "_law_well", "_law_take", "_law_of", "_law_same", "_law_is_number", "_law_is_name", "_law_are_hosts", "_law_are_rows", "_law_names", "_law_rising", "_law_hosts", "_law_version", "_law_text_of", "_law_host_of", "_law_row_of", "_law_serial_of", "_law_read"]
def ls3 : List Str := ["_law_asked", "_law_is_told", "_law_bent", "_law_edges", "_law_right"]
def ls : List Str := ls0 ++ ls1 ++ ls2 ++ ls3
theorem run (w : World) : HandSHeadRun.RunEq row (PySem.W.view row.prog [73]) hk ob 9000 ls w := by
  intro os
  kernel_rfl
end K72
namespace Z
open PySem PySem.Spec L2
open PyProof.Rows hiding St

/-! ## data and how a heap shows it -/
inductive RV where
  | v (d : D)
  | o (d : D)
def RV.d : RV → D
  | .v d => d
  | .o d => d
abbrev Rho := List (Option RV)
abbrev AS := Addr → Prop
def kD : L2.Key → D
  | .inl i => .int i
  | .inr s => .str s

def LA (K : PySem.W.Frag) (H : Hp) (O : AS) (a : Addr) (vs : List V) : Prop := (Rd H a (.lst vs) ∧ ¬ O a) ∨ SqL K (fun _ => none) a vs
def TAt (K : PySem.W.Frag) (H : Hp) (O : AS) (a : Addr) (vs : List V) : Prop := (Rd H a (.tup vs) ∧ ¬ O a) ∨ SqT K (fun _ => none) a vs
/-- a text that can be shown -/
def KeyOk : L2.Key → Prop
  | .inl _ => True
  | .inr s => PyData.strOk s = true
mutual
inductive Rep (K : PySem.W.Frag) (H : Hp) (O : AS) : D → V → Prop
  | non : Rep K H O .none .non
  | bl (b : Bool) : Rep K H O (.bool b) (.bl b)
  | int (i : Int) : Rep K H O (.int i) (.int i)
  | str (x : Str) (h : PyData.strOk x = true) : Rep K H O (.str x) (.str x)
  | lst {a : Addr} {vs : List V} {ds : List D} : LA K H O a vs → Reps K H O ds vs → Rep K H O (.list ds) (.ref a)
  | tup {a : Addr} {vs : List V} {ds : List D} : TAt K H O a vs → Reps K H O ds vs → Rep K H O (.tuple ds) (.ref a)
  | dic {a : Addr} {kvs : List (L2.Key × V)} {ds : List (D × D)} : H a = some (.dK kvs) → ¬ O a → RepK K H O ds kvs → Rep K H O (.dict ds) (.ref a)
inductive Reps (K : PySem.W.Frag) (H : Hp) (O : AS) : List D → List V → Prop
  | nil : Reps K H O [] []
  | cons {d : D} {v : V} {ds : List D} {vs : List V} : Rep K H O d v → Reps K H O ds vs → Reps K H O (d :: ds) (v :: vs)
inductive RepK (K : PySem.W.Frag) (H : Hp) (O : AS) : List (D × D) → List (L2.Key × V) → Prop
  | nil : RepK K H O [] []
  | cons {k : L2.Key} {d : D} {v : V} {ds : List (D × D)} {vs : List (L2.Key × V)} : KeyOk k → Rep K H O d v → RepK K H O ds vs → RepK K H O ((kD k, d) :: ds) ((k, v) :: vs)
end
/-- what is not owned stays, and stays not owned -/
def Keeps (H : Hp) (O : AS) (H' : Hp) (O' : AS) : Prop := ∀ b o, H b = some o → ¬ O b → H' b = some o ∧ ¬ O' b
theorem Keeps.trans {H H1 H2 : Hp} {O O1 O2 : AS} (a : Keeps H O H1 O1) (b : Keeps H1 O1 H2 O2) : Keeps H O H2 O2 := fun c o h n => let ⟨h1, n1⟩ := a c o h n; b c o h1 n1
theorem Keeps.rfl {H : Hp} {O : AS} : Keeps H O H O := fun _ _ h n => ⟨h, n⟩

section
variable {K : PySem.W.Frag} {H H' : Hp} {O O' : AS} {a : Addr} {vs : List V}
theorem LA.mono (k : Keeps H O H' O') (h : LA K H O a vs) : LA K H' O' a vs := by
  rcases h with ⟨h | ⟨o, h⟩, n⟩ | h
  · exact .inl ⟨.inl (k _ _ h n).1, (k _ _ h n).2⟩
  · exact .inl ⟨.inr ⟨o, (k _ _ h n).1⟩, (k _ _ h n).2⟩
  · exact .inr h
theorem TAt.mono (k : Keeps H O H' O') (h : TAt K H O a vs) : TAt K H' O' a vs := by
  rcases h with ⟨h | ⟨o, h⟩, n⟩ | h
  · exact .inl ⟨.inl (k _ _ h n).1, (k _ _ h n).2⟩
  · exact .inl ⟨.inr ⟨o, (k _ _ h n).1⟩, (k _ _ h n).2⟩
  · exact .inr h
theorem LA.sq (h : LA K H O a vs) : SqL K H a vs := by
  rcases h with ⟨h, _⟩ | (h | h)
  · exact .inl h
  · rcases h with h | ⟨_, h⟩ <;> cases h
  · exact .inr h
theorem TAt.sq (h : TAt K H O a vs) : SqT K H a vs := by
  rcases h with ⟨h, _⟩ | (h | h)
  · exact .inl h
  · rcases h with h | ⟨_, h⟩ <;> cases h
  · exact .inr h
mutual
theorem Rep.mono (k : Keeps H O H' O') : ∀ {d : D} {v : V}, Rep K H O d v → Rep K H' O' d v
  | _, _, .non => .non
  | _, _, .bl b => .bl b
  | _, _, .int i => .int i
  | _, _, .str x h => .str x h
  | _, _, .lst h r => .lst (h.mono k) (Reps.mono k r)
  | _, _, .tup h r => .tup (h.mono k) (Reps.mono k r)
  | _, _, .dic h n r => .dic (k _ _ h n).1 (k _ _ h n).2 (RepK.mono k r)
theorem Reps.mono (k : Keeps H O H' O') : ∀ {ds : List D} {vs : List V}, Reps K H O ds vs → Reps K H' O' ds vs
  | _, _, .nil => .nil
  | _, _, .cons r t => .cons (Rep.mono k r) (Reps.mono k t)
theorem RepK.mono (k : Keeps H O H' O') : ∀ {ds : List (D × D)} {vs : List (L2.Key × V)}, RepK K H O ds vs → RepK K H' O' ds vs
  | _, _, .nil => .nil
  | _, _, .cons h r t => .cons h (Rep.mono k r) (RepK.mono k t)
end
mutual
/-- no dict within -/
def noDict : D → Bool
  | .list ds => noDicts ds
  | .tuple ds => noDicts ds
  | .dict _ => false
  | _ => true
def noDicts : List D → Bool
  | [] => true
  | d :: ds => noDict d && noDicts ds
end
mutual
theorem Rep.dp : ∀ {d : D} {v : V}, Rep K H O d v → noDict d = true → Dp K H v d
  | _, _, .non, _ => .non
  | _, _, .bl b, _ => .bl b
  | _, _, .int i, _ => .int i
  | _, _, .str x _, _ => .str x
  | _, _, .lst h r, n => .lst h.sq (Reps.dp r (by simpa [noDict] using n))
  | _, _, .tup h r, n => .tup h.sq (Reps.dp r (by simpa [noDict] using n))
  | _, _, .dic h _ r, n => by simp [noDict] at n
theorem Reps.dp : ∀ {ds : List D} {vs : List V}, Reps K H O ds vs → noDicts ds = true → DpAll K H vs ds
  | _, _, .nil, _ => .nil
  | _, _, .cons r t, n => by
    simp only [noDicts, Bool.and_eq_true] at n
    exact .cons (Rep.dp r n.1) (Reps.dp t n.2)
end
mutual
theorem Rep.lay : ∀ {d : D} {v : V}, Rep K H O d v → noDict d = true → d.canLay0 = true
  | _, _, .non, _ => by rfl
  | _, _, .bl b, _ => by rfl
  | _, _, .int i, _ => by rfl
  | _, _, .str x h, _ => by rw [PyData.canLay0]; exact h
  | _, _, .lst _ r, n => by rw [PyData.canLay0]; exact Reps.lay r (by simpa [noDict] using n)
  | _, _, .tup _ r, n => by rw [PyData.canLay0]; exact Reps.lay r (by simpa [noDict] using n)
  | _, _, .dic h _ r, n => by simp [noDict] at n
theorem Reps.lay : ∀ {ds : List D} {vs : List V}, Reps K H O ds vs → noDicts ds = true → PyData.canLayAll0 ds = true
  | _, _, .nil, _ => by rfl
  | _, _, .cons r t, n => by
    simp only [noDicts, Bool.and_eq_true] at n
    rw [PyData.canLayAll0, Rep.lay r n.1, Reps.lay t n.2]; rfl
end
theorem Reps.length : ∀ {ds : List D} {vs : List V}, Reps K H O ds vs → ds.length = vs.length
  | _, _, .nil => rfl
  | _, _, .cons _ t => by simp [Reps.length t]
theorem RepK.length : ∀ {ds : List (D × D)} {vs : List (L2.Key × V)}, RepK K H O ds vs → ds.length = vs.length
  | _, _, .nil => rfl
  | _, _, .cons _ _ t => by simp [RepK.length t]
theorem Reps.get : ∀ {ds : List D} {vs : List V} {i : Nat} {d : D}, Reps K H O ds vs → ds[i]? = some d → ∃ v, vs[i]? = some v ∧ Rep K H O d v
  | _, _, _, _, .nil, e => by simp at e
  | _, _, 0, _, .cons r _, e => by simp at e; subst e; exact ⟨_, rfl, r⟩
  | _, _, i + 1, d, .cons _ t, e => by
    obtain ⟨v, h1, h2⟩ := Reps.get (i := i) t (by simpa using e)
    exact ⟨v, by simpa using h1, h2⟩
theorem Reps.append : ∀ {ds es : List D} {vs ws : List V}, Reps K H O ds vs → Reps K H O es ws → Reps K H O (ds ++ es) (vs ++ ws)
  | _, _, _, _, .nil, s => s
  | _, _, _, _, .cons r t, s => .cons r (Reps.append t s)
theorem Reps.take : ∀ {ds : List D} {vs : List V} (n : Nat), Reps K H O ds vs → Reps K H O (ds.take n) (vs.take n)
  | _, _, 0, _ => .nil
  | _, _, _ + 1, .nil => .nil
  | _, _, n + 1, .cons r t => .cons r (Reps.take n t)
theorem Reps.drop : ∀ {ds : List D} {vs : List V} (n : Nat), Reps K H O ds vs → Reps K H O (ds.drop n) (vs.drop n)
  | _, _, 0, r => r
  | _, _, _ + 1, .nil => .nil
  | _, _, n + 1, .cons _ t => Reps.drop n t
theorem Reps.set : ∀ {ds : List D} {vs : List V} {d : D} {v : V} (i : Nat), Rep K H O d v → Reps K H O ds vs → Reps K H O (ds.set i d) (vs.set i v)
  | _, _, _, _, _, _, .nil => .nil
  | _, _, _, _, 0, q, .cons _ t => .cons q t
  | _, _, _, _, i + 1, q, .cons r t => .cons r (Reps.set i q t)
theorem Reps.ints : ∀ {ds : List D} {vs : List V} {ns : List Int}, Reps K H O ds vs → ds = ns.map .int → vs = ns.map V.int
  | _, _, [], .nil, _ => rfl
  | _, _, _ :: _, .nil, e => by simp at e
  | _, _, [], .cons _ _, e => by simp at e
  | _, _, n :: ns, .cons r t, e => by
    simp only [List.map_cons, List.cons.injEq] at e
    obtain ⟨e1, e2⟩ := e
    subst e1
    cases r
    rw [Reps.ints t e2]; rfl
theorem Reps.bools : ∀ {ds : List D} {vs : List V} {ns : List Bool}, Reps K H O ds vs → ds = ns.map .bool → vs = ns.map V.bl
  | _, _, [], .nil, _ => rfl
  | _, _, _ :: _, .nil, e => by simp at e
  | _, _, [], .cons _ _, e => by simp at e
  | _, _, n :: ns, .cons r t, e => by
    simp only [List.map_cons, List.cons.injEq] at e
    obtain ⟨e1, e2⟩ := e
    subst e1
    cases r
    rw [Reps.bools t e2]; rfl
theorem Reps.strs : ∀ {ds : List D} {vs : List V} {ns : List Str}, Reps K H O ds vs → ds = ns.map .str → vs = ns.map V.str
  | _, _, [], .nil, _ => rfl
  | _, _, _ :: _, .nil, e => by simp at e
  | _, _, [], .cons _ _, e => by simp at e
  | _, _, n :: ns, .cons r t, e => by
    simp only [List.map_cons, List.cons.injEq] at e
    obtain ⟨e1, e2⟩ := e
    subst e1
    cases r
    rw [Reps.strs t e2]; rfl
end

def OwnAt (K : PySem.W.Frag) (H : Hp) (O : AS) (d : D) (a : Addr) : Prop :=
  match d with
  | .list ds => ∃ vs, H a = some (.lst vs) ∧ Reps K H O ds vs
  | .dict ds => ∃ kvs, H a = some (.dK kvs) ∧ RepK K H O ds kvs
  | _ => False
theorem OwnAt.there {K : PySem.W.Frag} {H : Hp} {O : AS} {d : D} {a : Addr} (h : OwnAt K H O d a) : ∃ o, H a = some o := by
  cases d <;> first | exact (show False from h).elim | exact let ⟨_, e, _⟩ := h; ⟨_, e⟩
theorem OwnAt.mono {K : PySem.W.Frag} {H H' : Hp} {O O' : AS} {d : D} {a : Addr} (k : Keeps H O H' O') (ha : ∀ o, H a = some o → H' a = some o) (h : OwnAt K H O d a) : OwnAt K H' O' d a := by
  cases d <;> first
    | exact (show False from h).elim
    | exact let ⟨vs, e, r⟩ := (h : ∃ vs, H a = some (.lst vs) ∧ Reps K H O _ vs); ⟨vs, ha _ e, r.mono k⟩
    | exact let ⟨vs, e, r⟩ := (h : ∃ vs, H a = some (.dK vs) ∧ RepK K H O _ vs); ⟨vs, ha _ e, r.mono k⟩
theorem OwnAt.rep {K : PySem.W.Frag} {H : Hp} {O O' : AS} {d : D} {a : Addr} (k : Keeps H O H O') (n : ¬ O' a) (h : OwnAt K H O d a) : Rep K H O' d (.ref a) := by
  cases d <;> first
    | exact (show False from h).elim
    | exact let ⟨vs, e, r⟩ := (h : ∃ vs, H a = some (.lst vs) ∧ Reps K H O _ vs); .lst (.inl ⟨.inl e, n⟩) (r.mono k)
    | exact let ⟨vs, e, r⟩ := (h : ∃ vs, H a = some (.dK vs) ∧ RepK K H O _ vs); .dic e n (r.mono k)
/-- what an operator may read -/
def Top (K : PySem.W.Frag) (H : Hp) (O : AS) (d : D) (v : V) : Prop := Rep K H O d v ∨ ∃ a, v = .ref a ∧ OwnAt K H O d a
section
variable {K : PySem.W.Frag} {H H' : Hp} {O O' : AS} {v : V}
theorem Top.list {ds : List D} (h : Top K H O (.list ds) v) : ∃ a vs, v = .ref a ∧ SqL K H a vs ∧ Reps K H O ds vs := by
  rcases h with h | ⟨a, rfl, vs, e, r⟩
  · cases h with
    | lst l r => exact ⟨_, _, rfl, l.sq, r⟩
  · exact ⟨a, vs, rfl, .inl (.inl e), r⟩
theorem Top.tuple {ds : List D} (h : Top K H O (.tuple ds) v) : ∃ a vs, v = .ref a ∧ SqT K H a vs ∧ Reps K H O ds vs := by
  rcases h with h | ⟨a, rfl, h⟩
  · cases h with
    | tup l r => exact ⟨_, _, rfl, l.sq, r⟩
  · exact (show False from h).elim
theorem Top.dict {ds : List (D × D)} (h : Top K H O (.dict ds) v) : ∃ a kvs, v = .ref a ∧ H a = some (.dK kvs) ∧ RepK K H O ds kvs := by
  rcases h with h | ⟨a, rfl, vs, e, r⟩
  · cases h with
    | dic l _ r => exact ⟨_, _, rfl, l, r⟩
  · exact ⟨a, vs, rfl, e, r⟩
theorem Top.int {i : Int} (h : Top K H O (.int i) v) : v = .int i := by
  rcases h with h | ⟨a, rfl, h⟩
  · cases h; rfl
  · exact (show False from h).elim
theorem Top.str {i : Str} (h : Top K H O (.str i) v) : v = .str i := by
  rcases h with h | ⟨a, rfl, h⟩
  · cases h; rfl
  · exact (show False from h).elim
theorem Top.bl {i : Bool} (h : Top K H O (.bool i) v) : v = .bl i := by
  rcases h with h | ⟨a, rfl, h⟩
  · cases h; rfl
  · exact (show False from h).elim
theorem Top.non (h : Top K H O .none v) : v = .non := by
  rcases h with h | ⟨a, rfl, h⟩
  · cases h; rfl
  · exact (show False from h).elim
theorem Top.strOk {i : Str} (h : Top K H O (.str i) v) : PyData.strOk i = true := by
  rcases h with h | ⟨a, rfl, h⟩
  · cases h; assumption
  · exact (show False from h).elim
theorem Top.lay {d : D} (h : Top K H O d v) (n : noDict d = true) : d.canLay0 = true := by
  rcases h with h | ⟨a, rfl, h⟩
  · exact h.lay n
  · cases d <;> first
      | exact (show False from h).elim
      | exact (by obtain ⟨vs, e, r⟩ := h; rw [PyData.canLay0]; exact r.lay (by simpa [noDict] using n))
      | simp [noDict] at n
theorem Top.dp {d : D} (h : Top K H O d v) (n : noDict d = true) : Dp K H v d := by
  rcases h with h | ⟨a, rfl, h⟩
  · exact h.dp n
  · cases d <;> first
      | exact (show False from h).elim
      | exact (by obtain ⟨vs, e, r⟩ := h; exact .lst (.inl (.inl e)) (r.dp (by simpa [noDict] using n)))
      | simp [noDict] at n
end

/-! ## the slots -/
structure Cn where
  K : PySem.W.Frag
  H0 : Hp
  s0 : St
  pr : List Nat
def OwnS (ρ : Rho) (σ : St) : AS := fun b => ∃ (i : Nat) (d : D), ρ[i]? = some (some (.o d)) ∧ σ[i]? = some (some (.ref b))
def OE (ρ : Rho) (σ : St) (E : AS) : AS := fun b => E b ∨ OwnS ρ σ b
def Add (E : AS) (a : Addr) : AS := fun b => E b ∨ b = a
structure R (c : Cn) (E : AS) (ρ : Rho) (σ : St) (H : Hp) : Prop where
  len : ρ.length = σ.length
  val : ∀ (i : Nat) (d : D), ρ[i]? = some (some (.v d)) → ∃ v, σ[i]? = some (some v) ∧ Rep c.K H (OE ρ σ E) d v
  own : ∀ (i : Nat) (d : D), ρ[i]? = some (some (.o d)) → ∃ a, σ[i]? = some (some (.ref a)) ∧ OwnAt c.K H (OE ρ σ E) d a ∧ ¬ E a ∧ (c.H0 a = none ∨ ∃ j ∈ c.pr, c.s0[j]? = some (some (.ref a)))
  inj : ∀ (i j : Nat) (d e : D) (a : Addr), ρ[i]? = some (some (.o d)) → ρ[j]? = some (some (.o e)) → σ[i]? = some (some (.ref a)) → σ[j]? = some (some (.ref a)) → i = j
  eal : ∀ b, E b → ∃ o, H b = some o
  al : ∀ b o, c.H0 b = some o → ∃ o', H b = some o'
  prt : ∀ i ∈ c.pr, σ[i]? = c.s0[i]?
/-- from one state to a later one -/
structure Stp (ρ : Rho) (σ : St) (H : Hp) (ρ' : Rho) (σ' : St) (H' : Hp) : Prop where
  keep : ∀ b o, H b = some o → ¬ OwnS ρ σ b → H' b = some o
  all : ∀ b o, H b = some o → ∃ o', H' b = some o'
  own : ∀ b o, H b = some o → OwnS ρ' σ' b → OwnS ρ σ b
section
variable {c : Cn} {E : AS} {ρ ρ1 ρ' : Rho} {σ σ1 σ' : St} {H H1 H' : Hp} {d : D} {v z : V} {a : Addr}
theorem Stp.rfl : Stp ρ σ H ρ σ H := ⟨fun _ _ h _ => h, fun _ _ h => ⟨_, h⟩, fun _ _ _ h => h⟩
theorem Stp.trans (s : Stp ρ σ H ρ1 σ1 H1) (t : Stp ρ1 σ1 H1 ρ' σ' H') : Stp ρ σ H ρ' σ' H' :=
  ⟨fun b o h n => t.keep b o (s.keep b o h n) fun q => n (s.own b o h q), fun b o h => let ⟨o1, h1⟩ := s.all b o h; t.all b o1 h1,
   fun b o h q => let ⟨o1, h1⟩ := s.all b o h; s.own b o h (t.own b o1 h1 q)⟩
theorem Stp.keeps (s : Stp ρ σ H ρ' σ' H') : Keeps H (OE ρ σ E) H' (OE ρ' σ' E) := fun b o h n =>
  ⟨s.keep b o h fun q => n (.inr q), fun q => n (q.elim .inl fun q => .inr (s.own b o h q))⟩
theorem Keeps.add {O : AS} (n : H a = none) : Keeps H O H (Add O a) := fun b o h k => ⟨h, fun q => q.elim k fun e => by subst e; rw [n] at h; cases h⟩
theorem OE_add : OE ρ σ (Add E a) = Add (OE ρ σ E) a := by
  funext b
  apply propext
  constructor
  · rintro ((h | h) | h)
    · exact .inl (.inl h)
    · exact .inr h
    · exact .inl (.inr h)
  · rintro ((h | h) | h)
    · exact .inl (.inl h)
    · exact .inr h
    · exact .inl (.inr h)
/-- only new objects -/
def Grow (H H' : Hp) : Prop := ∀ b o, H b = some o → H' b = some o
theorem Grow.rfl : Grow H H := fun _ _ h => h
theorem Grow.trans (s : Grow H H1) (t : Grow H1 H') : Grow H H' := fun b o h => t b o (s b o h)
theorem Grow.keeps {O : AS} (g : Grow H H') : Keeps H O H' O := fun b o h n => ⟨g b o h, n⟩
theorem Grow.upd {o : HO} (n : H a = none) : Grow H (upd H a o) := fun b u h => by rw [upd_ne (ne_of_none h n)]; exact h
theorem Grow.stp (g : Grow H H') : Stp ρ σ H ρ σ H' := ⟨fun b o h _ => g b o h, fun b o h => ⟨o, g b o h⟩, fun _ _ _ h => h⟩
theorem R.grow (r : R c E ρ σ H) (g : Grow H H') : R c E ρ σ H' :=
  ⟨r.len, fun i d h => let ⟨v, h1, h2⟩ := r.val i d h; ⟨v, h1, h2.mono g.keeps⟩,
   fun i d h => let ⟨a, h1, h2, h3⟩ := r.own i d h; ⟨a, h1, h2.mono g.keeps (g a), h3⟩, r.inj,
   fun b h => let ⟨o, h1⟩ := r.eal b h; ⟨o, g b o h1⟩, fun b o h => let ⟨o', h1⟩ := r.al b o h; ⟨o', g b o' h1⟩, r.prt⟩
theorem R.own_there (r : R c E ρ σ H) {b : Addr} (h : OwnS ρ σ b) : ∃ o, H b = some o := by
  obtain ⟨i, d, h1, h2⟩ := h
  obtain ⟨a, h3, h4, _⟩ := r.own i d h1
  rw [h2] at h3
  cases h3
  exact h4.there
/-- a new address is avoided -/
theorem R.add {H' : Hp} {o : HO} (r : R c E ρ σ H) (n : H a = none) (g : Grow H H') (h : H' a = some o) : R c (Add E a) ρ σ H' := by
  have k : Keeps H (OE ρ σ E) H' (OE ρ σ (Add E a)) := by rw [OE_add]; exact (Keeps.add n).trans g.keeps
  refine ⟨r.len, fun i d q => let ⟨v, h1, h2⟩ := r.val i d q; ⟨v, h1, h2.mono k⟩, fun i d q => ?_, r.inj, fun b q => ?_, fun b o h => let ⟨o', h1⟩ := r.al b o h; ⟨o', g b o' h1⟩, r.prt⟩
  · obtain ⟨x, h1, h2, h3, h4⟩ := r.own i d q
    refine ⟨x, h1, h2.mono k (g x), fun z => z.elim h3 fun e => ?_, h4⟩
    obtain ⟨u, hu⟩ := h2.there
    rw [e, n] at hu
    cases hu
  · rcases q with q | q
    · exact let ⟨o, h1⟩ := r.eal b q; ⟨o, g b o h1⟩
    · exact ⟨o, by rw [q]; exact h⟩
/-- less is avoided -/
theorem R.drop (r : R c (Add E a) ρ σ H) : R c E ρ σ H := by
  have k : Keeps H (OE ρ σ (Add E a)) H (OE ρ σ E) := fun b o h n => ⟨h, fun q => n (q.elim (fun q => .inl (.inl q)) .inr)⟩
  exact ⟨r.len, fun i d q => let ⟨v, h1, h2⟩ := r.val i d q; ⟨v, h1, h2.mono k⟩,
    fun i d q => let ⟨x, h1, h2, h3, h4⟩ := r.own i d q; ⟨x, h1, h2.mono k (fun _ h => h), fun z => h3 (.inl z), h4⟩, r.inj, fun b q => r.eal b (.inl q), r.al, r.prt⟩
theorem R.own_not (r : R c E ρ σ H) {b : Addr} (h : OwnS ρ σ b) : ¬ E b := by
  obtain ⟨i, d, h1, h2⟩ := h
  obtain ⟨x, h3, _, h4, _⟩ := r.own i d h1
  rw [h2] at h3
  cases h3
  exact h4
/-- an own slot is let go: its list is never changed again -/
theorem R.freeze {i : Nat} (r : R c E ρ σ H) (h : ρ[i]? = some (some (.o d))) : R c E (ρ.set i (some (.v d))) σ H ∧ Stp ρ σ H (ρ.set i (some (.v d))) σ H ∧ ∃ v, σ[i]? = some (some v) ∧ Rep c.K H (OE (ρ.set i (some (.v d))) σ E) d v := by
  have hi : i < ρ.length := (List.getElem?_eq_some_iff.mp h).1
  obtain ⟨a, h1, h2, h3, h4⟩ := r.own i d h
  have sub : ∀ (j : Nat) (e : D), (ρ.set i (some (.v d)))[j]? = some (some (.o e)) → ρ[j]? = some (some (.o e)) ∧ j ≠ i := fun j e q => by
    by_cases hj : j = i
    · subst hj
      rw [List.getElem?_set_self hi] at q
      cases q
    · rw [List.getElem?_set_ne (Ne.symm hj)] at q
      exact ⟨q, hj⟩
  have osub : ∀ b, OwnS (ρ.set i (some (.v d))) σ b → OwnS ρ σ b := fun b ⟨j, e, q1, q2⟩ => ⟨j, e, (sub j e q1).1, q2⟩
  have k : Keeps H (OE ρ σ E) H (OE (ρ.set i (some (.v d))) σ E) := fun b o q n => ⟨q, fun z => n (z.elim .inl fun z => .inr (osub b z))⟩
  have na : ¬ OE (ρ.set i (some (.v d))) σ E a := by
    rintro (z | ⟨j, e, q1, q2⟩)
    · exact h3 z
    · obtain ⟨q1, q3⟩ := sub j e q1
      exact q3 (r.inj j i e d a q1 h q2 h1)
  have rp : Rep c.K H (OE (ρ.set i (some (.v d))) σ E) d (.ref a) := h2.rep k na
  refine ⟨⟨by rw [List.length_set]; exact r.len, fun j e q => ?_, fun j e q => ?_, fun j l e f x q1 q2 => ?_, r.eal, r.al, r.prt⟩, ⟨fun _ _ h _ => h, fun _ _ h => ⟨_, h⟩, fun b _ _ q => osub b q⟩, _, h1, rp⟩
  · by_cases hj : j = i
    · subst hj
      rw [List.getElem?_set_self hi] at q
      cases q
      exact ⟨_, h1, rp⟩
    · rw [List.getElem?_set_ne (Ne.symm hj)] at q
      exact let ⟨v, h1, h2⟩ := r.val j e q; ⟨v, h1, h2.mono k⟩
  · obtain ⟨q, _⟩ := sub j e q
    exact let ⟨x, h1, h2, h3⟩ := r.own j e q; ⟨x, h1, h2.mono k (fun _ h => h), h3⟩
  · exact r.inj j l e f x (sub _ _ q1).1 (sub _ _ q2).1
end

/-! ## readings -/
abbrev ME := Rho → Option (RV × Rho)
abbrev MB := Rho → Option (Bool × Rho)
inductive Op where
  | sl (i : Nat)
  | tv (d : D)
abbrev MO := Rho → Option (Op × Rho)
abbrev MOs := Rho → Option (List Op × Rho)
def slot (ρ : Rho) (i : Nat) : Option D :=
  match ρ[i]? with
  | some (some r) => some r.d
  | _ => none
def Op.get (ρ : Rho) : Op → Option D
  | .tv d => some d
  | .sl i => slot ρ i
def getAll (ρ : Rho) : List Op → Option (List D)
  | [] => some []
  | p :: ps => match p.get ρ, getAll ρ ps with
    | some d, some ds => some (d :: ds)
    | _, _ => none
def PostV (c : Cn) (E : AS) (ρ : Rho) (σ : St) (H : Hp) (ρ' : Rho) (H' : Hp) (d : D) (z : V) : Prop := Stp ρ σ H ρ' σ H' ∧ R c E ρ' σ H' ∧ Rep c.K H' (OE ρ' σ E) d z
def PostE (c : Cn) (E : AS) (ρ : Rho) (σ : St) (H : Hp) (ρ' : Rho) (H' : Hp) (rv : RV) (z : V) : Prop :=
  match rv with
  | .v d => PostV c E ρ σ H ρ' H' d z
  | .o d => ∃ a, z = .ref a ∧ Stp ρ σ H ρ' σ H' ∧ H a = none ∧ R c (Add E a) ρ' σ H' ∧ OwnAt c.K H' (OE ρ' σ (Add E a)) d a
theorem PostE.pv {c : Cn} {E : AS} {ρ ρ' : Rho} {σ : St} {H H' : Hp} {rv : RV} {z : V} (he : R c E ρ σ H) (h : PostE c E ρ σ H ρ' H' rv z) : PostV c E ρ σ H ρ' H' rv.d z := by
  cases rv with
  | v d => exact h
  | o d =>
    obtain ⟨a, rfl, s, n, r, o⟩ := h
    refine ⟨s, r.drop, o.rep (O := OE ρ' σ (Add E a)) (fun b o h q => ⟨h, fun z => q (z.elim (fun z => .inl (.inl z)) .inr)⟩) fun z => ?_⟩
    rcases z with z | z
    · obtain ⟨u, hu⟩ := he.eal a z
      rw [n] at hu; cases hu
    · exact r.own_not z (.inr rfl)
def PostOp (c : Cn) (E : AS) (ρ : Rho) (σ : St) (H : Hp) (ρ' : Rho) (H' : Hp) (p : Op) (z : V) : Prop :=
  Stp ρ σ H ρ' σ H' ∧ R c E ρ' σ H' ∧ match p with
    | .tv d => Rep c.K H' (OE ρ' σ E) d z
    | .sl i => σ[i]? = some (some z)
def OpsAt (c : Cn) (E : AS) (ρ' : Rho) (σ : St) (H' : Hp) : List Op → List V → Prop
  | [], [] => True
  | p :: ps, z :: zs => (match p with
    | .tv d => Rep c.K H' (OE ρ' σ E) d z
    | .sl i => σ[i]? = some (some z)) ∧ OpsAt c E ρ' σ H' ps zs
  | _, _ => False
def tE (X : Cx) (f : ME) : TE := fun σ H Q => ∃ c E ρ rv ρ', c.K = X.K ∧ R c E ρ σ H ∧ f ρ = some (rv, ρ') ∧ ∀ z H', PostE c E ρ σ H ρ' H' rv z → Q z H'
def tOpd (X : Cx) (f : MO) : TE := fun σ H Q => ∃ c E ρ p ρ', c.K = X.K ∧ R c E ρ σ H ∧ f ρ = some (p, ρ') ∧ ∀ z H', PostOp c E ρ σ H ρ' H' p z → Q z H'
def tOps (X : Cx) (f : MOs) : TA := fun σ H Q => ∃ c E ρ ps ρ', c.K = X.K ∧ R c E ρ σ H ∧ f ρ = some (ps, ρ') ∧ ∀ zs H', Stp ρ σ H ρ' σ H' ∧ R c E ρ' σ H' ∧ OpsAt c E ρ' σ H' ps zs → Q zs H'
def tT (X : Cx) (f : MB) : TT := fun σ H Q => ∃ c E ρ b ρ', c.K = X.K ∧ R c E ρ σ H ∧ f ρ = some (b, ρ') ∧ ∀ H', Stp ρ σ H ρ' σ H' ∧ R c E ρ' σ H' → Q b H'
def Tops (K : PySem.W.Frag) (H : Hp) (O : AS) : List D → List V → Prop
  | [], [] => True
  | d :: ds, z :: zs => Top K H O d z ∧ Tops K H O ds zs
  | _, _ => False
section
variable {c : Cn} {E : AS} {ρ ρ1 ρ' : Rho} {σ σ1 σ' : St} {H H1 H' : Hp} {d : D} {v z : V} {a : Addr}
theorem R.top {i : Nat} (r : R c E ρ σ H) (h : slot ρ i = some d) (hz : σ[i]? = some (some z)) : Top c.K H (OE ρ σ E) d z := by
  unfold slot at h
  split at h
  · rename_i rv q
    cases h
    cases rv with
    | v d =>
      obtain ⟨v, h1, h2⟩ := r.val i d q
      rw [hz] at h1; cases h1
      exact .inl h2
    | o d =>
      obtain ⟨x, h1, h2, _⟩ := r.own i d q
      rw [hz] at h1; cases h1
      exact .inr ⟨x, rfl, h2⟩
  · cases h
theorem PostOp.top {p : Op} {ρ2 : Rho} {H2 : Hp} (h : PostOp c E ρ σ H ρ1 H1 p z) (s : Stp ρ1 σ H1 ρ2 σ H2) (r : R c E ρ2 σ H2) (g : p.get ρ2 = some d) : Top c.K H2 (OE ρ2 σ E) d z := by
  obtain ⟨_, _, q⟩ := h
  cases p with
  | tv e => cases g; exact .inl (Rep.mono s.keeps q)
  | sl i => exact r.top g q
theorem OpsAt.mono {ρ2 : Rho} {H2 : Hp} (s : Stp ρ1 σ H1 ρ2 σ H2) : ∀ {ps : List Op} {zs : List V}, OpsAt c E ρ1 σ H1 ps zs → OpsAt c E ρ2 σ H2 ps zs
  | [], [], _ => True.intro
  | .tv _ :: _, _ :: _, h => ⟨Rep.mono s.keeps h.1, OpsAt.mono s h.2⟩
  | .sl _ :: _, _ :: _, h => ⟨h.1, OpsAt.mono s h.2⟩
  | [], _ :: _, h => h.elim
  | _ :: _, [], h => h.elim
theorem OpsAt.tops (r : R c E ρ σ H) : ∀ {ps : List Op} {zs : List V} {ds : List D}, OpsAt c E ρ σ H ps zs → getAll ρ ps = some ds → Tops c.K H (OE ρ σ E) ds zs
  | [], [], ds, _, g => by cases g; exact True.intro
  | p :: ps, z :: zs, ds, h, g => by
    unfold getAll at g
    split at g
    · rename_i d es e1 e2
      cases g
      refine ⟨?_, OpsAt.tops r h.2 e2⟩
      cases p with
      | tv e => cases e1; exact .inl h.1
      | sl i => exact r.top e1 h.1
    · cases g
  | [], _ :: _, _, h, _ => h.elim
  | _ :: _, [], _, h, _ => h.elim
end
end Z
namespace Z
open PySem PySem.Spec L2
open PyProof.Rows hiding St

/-! ## operators on data -/
def szb (n : Nat) : Bool := decide (n ≤ 16777216)
theorem szb_ok {n : Nat} (h : szb n = true) : n ≤ sizeLine := by rw [sizeLine_eq]; exact of_decide_eq_true h
/-- data that == can compare here -/
def okE (d : D) : Bool := noDict d && decide (d.depth ≤ 60)
def addD : D → D → Option RV
  | .int i, .int j => some (.v (.int (i + j)))
  | .str i, .str j => if szb (i.length + j.length) then some (.v (.str (i ++ j))) else none
  | .list xs, .list ys => if szb (xs.length + ys.length) then some (.o (.list (xs ++ ys))) else none
  | .tuple xs, .tuple ys => if szb (xs.length + ys.length) then some (.v (.tuple (xs ++ ys))) else none
  | _, _ => none
def subD : D → D → Option RV
  | .int i, .int j => some (.v (.int (i - j)))
  | _, _ => none
def in64 (i : Int) : Bool := decide (i.natAbs < 18446744073709551616)
def repS (n : Nat) (x : Str) : Str := ⟨(List.replicate n x.cps).foldl (· ++ ·) #[]⟩
def mulD : D → D → Option RV
  | .int i, .int j => if in64 i || in64 j then some (.v (.int (i * j))) else none
  | .tuple xs, .int k => if decide (2 ≤ k) && decide (k ≤ 1000) && decide (xs.length ≤ 1000) then some (.v (.tuple (List.replicate k.toNat xs).flatten)) else none
  | .list xs, .int k => if decide (0 ≤ k) && decide (k ≤ 1000) && decide (xs.length ≤ 1000) then some (.o (.list (List.replicate k.toNat xs).flatten)) else none
  | .str x, .int k => if decide (2 ≤ k) && decide (k ≤ 1000) && decide (1 ≤ x.length) && decide (x.length ≤ 1000) then some (.v (.str (repS k.toNat x))) else none
  | _, _ => none
def fdivD : D → D → Option RV
  | .int i, .int j => if decide (0 < j) && decide (j < 1073741824) then some (.v (.int (i / j))) else none
  | _, _ => none
def modD : D → D → Option RV
  | .int i, .int j => if decide (0 < j) then some (.v (.int (i % j))) else none
  | _, _ => none
def powD : D → D → Option RV
  | .int i, .int j => if decide (0 ≤ j) && decide (j ≤ 1000000) && in64 i then some (.v (.int (i ^ j.toNat))) else none
  | _, _ => none
def negD : D → Option RV
  | .int i => some (.v (.int (-i)))
  | _ => none
def bl (b : Bool) : Option RV := some (.v (.bool b))
/-- data that stand in one order -/
def cmpOk (d e : D) : Bool := okE d && okE e && PySem.W.alike d e && match d with
  | .none => false
  | _ => true
def ltD : D → D → Option RV
  | .int i, .int j => bl (decide (i < j))
  | .str i, .str j => bl (decide (i.cps.toList < j.cps.toList))
  | d, e => if cmpOk d e then bl (PySem.W.dataLt d e) else none
def leD : D → D → Option RV
  | .int i, .int j => bl (decide (i ≤ j))
  | d, e => if cmpOk d e then bl (!PySem.W.dataLt e d) else none
def gtD : D → D → Option RV
  | .int i, .int j => bl (decide (j < i))
  | d, e => if cmpOk d e then bl (PySem.W.dataLt e d) else none
def geD : D → D → Option RV
  | .int i, .int j => bl (decide (j ≤ i))
  | d, e => if cmpOk d e then bl (!PySem.W.dataLt d e) else none
def eqD (d e : D) : Option RV := if okE d && okE e then bl (PyData.eqv d e) else match d, e with
  | .tuple ds, .tuple [] => bl ds.isEmpty
  | _, _ => none
def neD (d e : D) : Option RV := if okE d && okE e then bl (!PyData.eqv d e) else none
/-- keys of dicts: ints and texts -/
def dEq : D → D → Bool
  | .int i, .int j => decide (i = j)
  | .str a, .str b => decide (a = b)
  | _, _ => false
def getK (ds : List (D × D)) (k : D) : Option D := (ds.find? fun p => dEq p.1 k).map (·.2)
def setK (ds : List (D × D)) (k v : D) : List (D × D) := if ds.any (fun p => dEq p.1 k) then ds.map (fun p => if dEq p.1 k then (p.1, v) else p) else ds ++ [(k, v)]
def isKD : D → Bool
  | .int _ => true
  | .str _ => true
  | _ => false
def signIn (c : Nat) (z : Str) : Bool := decide (c ∈ z.cps.toList)
def inD : D → D → Option RV
  | x, .list ys => if okE x && noDicts ys then bl (ys.any fun y => PyData.eqv y x) else none
  | x, .tuple ys => if okE x && noDicts ys then bl (ys.any fun y => PyData.eqv y x) else none
  | .str x, .str z => match x.cps.toList with
    | [c] => bl (signIn c z)
    | _ => none
  | x, .dict ds => if isKD x then bl (getK ds x).isSome else none
  | _, _ => none
def notInD (x y : D) : Option RV := match inD x y with
  | some (.v (.bool b)) => bl (!b)
  | _ => none
def isN : D → Bool
  | .none => true
  | _ => false
def isD : D → D → Option RV
  | d, .none => bl (isN d)
  | .bool a, .bool b => bl (decide (a = b))
  | _, _ => none
def isNotD (x y : D) : Option RV := match isD x y with
  | some (.v (.bool b)) => bl (!b)
  | _ => none
def atL (xs : List D) (i : Int) : Option D := atI xs i
def ixD : D → D → Option RV
  | .list xs, .int i => (atI xs i).map .v
  | .tuple xs, .int i => (atI xs i).map .v
  | .str z, .int i => if szb z.length then (atI z.cps.toList i).map fun c => .v (.str ⟨#[c]⟩) else none
  | .dict ds, x => if isKD x then (getK ds x).map .v else none
  | _, _ => none

/-! ## the rules by values -/
def ResB (K : PySem.W.Frag) (H : Hp) (O : AS) (rv : RV) (H' : Hp) (z : V) : Prop :=
  Grow H H' ∧ match rv with
    | .v d => Rep K H' O d z
    | .o d => ∃ a, z = .ref a ∧ H a = none ∧ OwnAt K H' (Add O a) d a
def rD2 (K : PySem.W.Frag) (f : D → D → Option RV) : R2 := fun x y H Q => ∃ (O : AS) (d e : D) (rv : RV), (∀ b, O b → ∃ o, H b = some o) ∧ Top K H O d x ∧ Top K H O e y ∧ f d e = some rv ∧ ∀ z H', ResB K H O rv H' z → Q z H'
def rD1 (K : PySem.W.Frag) (f : D → Option RV) : V → Hp → VK → Prop := fun x H Q => ∃ (O : AS) (d : D) (rv : RV), (∀ b, O b → ∃ o, H b = some o) ∧ Top K H O d x ∧ f d = some rv ∧ ∀ z H', ResB K H O rv H' z → Q z H'
def rDs (K : PySem.W.Frag) (f : List D → Option RV) : List V → Hp → VK → Prop := fun xs H Q => ∃ (O : AS) (ds : List D) (rv : RV), (∀ b, O b → ∃ o, H b = some o) ∧ Tops K H O ds xs ∧ f ds = some rv ∧ ∀ z H', ResB K H O rv H' z → Q z H'
theorem strOk_iff {x : Str} : PyData.strOk x = true ↔ ∀ c ∈ x.cps.toList, c < 0x110000 := by
  unfold PyData.strOk
  rw [← Array.all_toList, List.all_eq_true]
  simp only [decide_eq_true_eq]
theorem strOk_app {x y : Str} (h : PyData.strOk x = true) (g : PyData.strOk y = true) : PyData.strOk (x ++ y) = true := by
  rw [strOk_iff] at *
  intro c hc
  have e : (x ++ y).cps.toList = x.cps.toList ++ y.cps.toList := by
    show (x.cps ++ y.cps).toList = _
    simp
  rw [e] at hc
  rcases List.mem_append.mp hc with q | q
  · exact h c q
  · exact g c q
theorem strOk_one {x : Str} {c : Nat} (h : PyData.strOk x = true) (m : c ∈ x.cps.toList) : PyData.strOk ⟨#[c]⟩ = true := by
  rw [strOk_iff] at *
  intro b hb
  have e : b = c := by simpa using hb
  rw [e]; exact h c m

theorem dEq_kD (a b : L2.Key) : dEq (kD a) (kD b) = decide (a = b) := by
  cases a <;> cases b <;> simp [dEq, kD]
theorem isKD_ok {d : D} (h : isKD d = true) : ∃ k : L2.Key, d = kD k := by
  cases d <;> first
    | exact ⟨.inl _, rfl⟩
    | exact ⟨.inr _, rfl⟩
    | cases h
theorem getK_ok {K : PySem.W.Frag} {H : Hp} {O : AS} {k : L2.Key} : ∀ {ds : List (D × D)} {kvs : List (L2.Key × V)}, RepK K H O ds kvs → (getK ds (kD k) = none ∧ valV kvs k = none) ∨ ∃ d v, getK ds (kD k) = some d ∧ valV kvs k = some v ∧ Rep K H O d v
  | _, _, .nil => .inl ⟨rfl, rfl⟩
  | _, _, .cons (k := k0) (d := d) (v := v) _ r t => by
    by_cases e : k0 = k
    · refine .inr ⟨d, v, ?_, valV_pos e, r⟩
      unfold getK
      rw [List.find?_cons, dEq_kD, decide_eq_true e]; rfl
    · have e1 : ∀ ds : List (D × D), getK ((kD k0, d) :: ds) (kD k) = getK ds (kD k) := fun ds => by
        unfold getK
        rw [List.find?_cons, dEq_kD, decide_eq_false e]
      rw [e1, valV_neg e]
      exact getK_ok t
theorem setK_ok {K : PySem.W.Frag} {H : Hp} {O : AS} {k : L2.Key} {d : D} {v : V} (hk : KeyOk k) (r : Rep K H O d v) {ds : List (D × D)} {kvs : List (L2.Key × V)} (h : RepK K H O ds kvs) : RepK K H O (setK ds (kD k) d) (putK kvs k v) := by
  have e1 : ∀ {ds : List (D × D)} {kvs : List (L2.Key × V)}, RepK K H O ds kvs → ds.any (fun p => dEq p.1 (kD k)) = kvs.any fun kv => decide (kv.1 = k) := by
    intro ds
    induction ds with
    | nil => intro kvs h; cases h; rfl
    | cons p ds ih =>
      intro kvs h
      cases h with
      | cons _ r t => rw [List.any_cons, List.any_cons, dEq_kD, ih t]
  have e2 : ∀ {ds : List (D × D)} {kvs : List (L2.Key × V)}, RepK K H O ds kvs → RepK K H O (ds.map (fun p => if dEq p.1 (kD k) then (p.1, d) else p)) (kvs.map (fun kv => if kv.1 = k then (kv.1, v) else kv)) := by
    intro ds
    induction ds with
    | nil => intro kvs h; cases h; exact .nil
    | cons p ds ih =>
      intro kvs h
      cases h with
      | cons h2 r2 t =>
        rw [List.map_cons, List.map_cons, dEq_kD]
        rename_i k0 _ _ _
        by_cases e : k0 = k
        · simp only [decide_eq_true e, if_true, e]
          exact .cons hk r (ih t)
        · simp only [decide_eq_false e, if_neg e]
          exact .cons h2 r2 (ih t)
  have e3 : ∀ {ds : List (D × D)} {kvs : List (L2.Key × V)}, RepK K H O ds kvs → RepK K H O (ds ++ [(kD k, d)]) (kvs ++ [(k, v)]) := by
    intro ds
    induction ds with
    | nil => intro kvs h; cases h; exact .cons hk r .nil
    | cons p ds ih =>
      intro kvs h
      cases h with
      | cons h2 r2 t => exact .cons h2 r2 (ih t)
  unfold setK putK
  rw [e1 h]
  split
  · exact e2 h
  · exact e3 h
section
variable {X : Cx}
theorem resV {K : PySem.W.Frag} {H : Hp} {O : AS} {d : D} {z : V} (r : Rep K H O d z) : ResB K H O (.v d) H z := ⟨Grow.rfl, r⟩
theorem resBl {K : PySem.W.Frag} {H : Hp} {O : AS} {b : Bool} : ResB K H O (.v (.bool b)) H (.bl b) := resV (.bl b)
theorem resTup {K : PySem.W.Frag} {H : Hp} {O : AS} {ds : List D} {vs : List V} {p : Addr} (hO : ∀ b, O b → ∃ o, H b = some o) (r : Reps K H O ds vs) (n : H p = none) : ResB K H O (.v (.tuple ds)) (upd H p (.tup vs)) (.ref p) :=
  ⟨Grow.upd n, .tup (.inl ⟨.inl upd_same, fun z => by obtain ⟨o, e⟩ := hO p z; rw [n] at e; cases e⟩) (r.mono (Grow.keeps (Grow.upd n)))⟩
theorem resLst {K : PySem.W.Frag} {H : Hp} {O : AS} {ds : List D} {vs : List V} {p : Addr} (r : Reps K H O ds vs) (n : H p = none) : ResB K H O (.o (.list ds)) (upd H p (.lst vs)) (.ref p) :=
  ⟨Grow.upd n, p, rfl, n, vs, upd_same, r.mono ((Keeps.add n).trans (Grow.keeps (Grow.upd n)))⟩
theorem od_add : OpR X (binaryOp .Add) (rD2 X.K addD) := by
  intro pins s σ H x y v u Q I rx ry h
  obtain ⟨O, d, e, rv, hO, td, te, hf, q⟩ := h
  unfold addD at hf
  split at hf
  · rename_i i j
    cases td.int; cases te.int; cases hf
    exact op_add pins s σ H _ _ v u Q I rx ry ⟨i, j, rfl, rfl, q _ H (resV (.int _))⟩
  · rename_i i j
    split at hf
    · rename_i hz
      have s1 := td.strOk
      have s2 := te.strOk
      cases td.str; cases te.str; cases hf
      exact op_add_str pins s σ H _ _ v u Q I rx ry ⟨i, j, rfl, rfl, szb_ok hz, q _ H (resV (.str _ (strOk_app s1 s2)))⟩
    · cases hf
  · rename_i xs ys
    split at hf
    · rename_i hz
      cases hf
      obtain ⟨a, vs, rfl, ha, ra⟩ := td.list
      obtain ⟨b, ws, rfl, hb, rb⟩ := te.list
      cases rx; cases ry
      obtain ⟨its, r1, p1, z1⟩ := I.list ha
      obtain ⟨its2, r2, p2, z2⟩ := I.list hb
      obtain ⟨⟨c1, e1, d1, sl1⟩, n1, h1, h2, h3, h4⟩ := p1
      obtain ⟨⟨c2, e2, d2, sl2⟩, n2, g1, g2, g3, g4⟩ := p2
      simp only at h2 h3 h4 g2 g3 g4
      subst h2 h3 h4 g2 g3 g4
      have hl := Reps.length ra
      have hm := Reps.length rb
      have hz' := szb_ok hz
      have l1 := r1.length
      have l2 := r2.length
      refine concat_meets ⟨_, h1, rfl⟩ ⟨_, g1, rfl⟩ noFill_list_add seq_list_add PySem.F.slot_list_add PySem.F.entry_list_add (PySem.F.args_list_add_2 _ _)
        (list_addW a b its.toArray its2.toArray n1 n2 none none sl1 sl2 (by rw [List.size_toArray, List.size_toArray]; omega)) ⟨h1, g1, ?_⟩
      have ee : its.toArray ++ its2.toArray = (its ++ its2).toArray := by simp
      rw [ee]
      exact ⟨.ref _, _, I.lnew (t' := s.toks) (r1.append r2) (by rw [List.length_append]; omega), rfl, q _ _ (resLst (ra.append rb) I.fresh)⟩
    · cases hf
  · rename_i xs ys
    split at hf
    · rename_i hz
      cases hf
      obtain ⟨a, vs, rfl, ha, ra⟩ := td.tuple
      obtain ⟨b, ws, rfl, hb, rb⟩ := te.tuple
      have hl := Reps.length ra
      have hm := Reps.length rb
      refine op_catA pins s σ H _ _ v u Q I rx ry ⟨a, b, vs, ws, rfl, rfl, ha, hb, by have := szb_ok hz; omega, fun e => ?_, fun _ e => ?_, fun _ _ p np => q _ _ (resTup hO (ra.append rb) np)⟩
      · subst e
        cases ra
        refine q _ _ (resV ?_)
        rcases te with t | ⟨_, _, t⟩
        · exact t
        · exact t.elim
      · subst e
        cases rb
        refine q _ _ (resV ?_)
        rw [List.append_nil]
        rcases td with t | ⟨_, _, t⟩
        · exact t
        · exact t.elim
    · cases hf
  · cases hf
theorem od_sub : OpR X (binaryOp .Sub) (rD2 X.K subD) := by
  intro pins s σ H x y v u Q I rx ry ⟨O, d, e, rv, hO, td, te, hf, q⟩
  unfold subD at hf
  split at hf
  · rename_i i j
    cases td.int; cases te.int; cases hf
    exact op_sub pins s σ H _ _ v u Q I rx ry ⟨i, j, rfl, rfl, q _ H (resV (.int _))⟩
  · cases hf
theorem in64_ok {i : Int} (h : in64 i = true) : -(2 ^ 64) < i ∧ i < 2 ^ 64 := by
  have h : i.natAbs < 18446744073709551616 := of_decide_eq_true h
  constructor <;> omega
theorem tuple_mul0W (l : Addr) (n : Nat) (dd : Option Addr) (sl : Array (Option Value)) (x : Int) (u : Tok) (c0 : (decide (x < -(2 ^ 63)) || decide (x ≥ 2 ^ 63)) = false) :
    Meets (Builtin.«tuple.__mul__» ⟨[.ref l, .int x u], []⟩) (fun _ R s => s.heap.get? l = some { cls := .type "tuple", dict := dd, data := .seq #[] n, slots := sl } ∧
      R (.ok (.ret (Value.ref l))) s) :=
  .of_wp fun prog w A R s h => by
    obtain ⟨hp, g, d, tk, os⟩ := s
    obtain ⟨hl, h⟩ := h
    have f1 := AutoSeq1.idx_int
    wp_walk using wpAny_loadPart' hl
    refine wpAny_ite_false (decide_eq_false (by rw [c0]; exact Bool.false_ne_true)) ?_; wp_walk using wpAny_loadPart' hl
    exact ⟨_, rfl, h⟩
theorem op_repT0 : OpR X (binaryOp .Mult) (fun x y H Q => ∃ l k, x = .ref l ∧ y = .int k ∧ SqT X.K H l [] ∧ 2 ≤ k ∧ k ≤ 1000 ∧ Q (.ref l) H) := by
  intro pins s σ H x y v u Q I rx ry h
  obtain ⟨l, k, rfl, rfl, hT, h1, h2, q⟩ := h
  cases rx
  obtain ⟨t, rfl⟩ := ry
  obtain ⟨its, r, ⟨⟨cls, dd, data, sl⟩, ho, hc, n, hd⟩, hs⟩ := I.tuple hT
  simp only at hc hd
  subst hc hd
  cases r
  have c0 : (decide (k < -(2 ^ 63)) || decide (k ≥ 2 ^ 63)) = false := by
    rw [decide_eq_false (by omega), decide_eq_false (by omega)] <;> rfl
  exact wpAny_binaryOp_repeat_ref (T := "tuple") (U := "int") (by decide) ⟨_, ho, rfl⟩ (fun s' => typeIs_int s' k t) noFill_tuple_mul F.fills_int_mul F.slot_int_rmul repeat_tuple F.slot_int_index.lookup
    (call_meets F.slot_int_rmul (typeIs_int s k t) F.entry_int_rmul (F.args_int_rmul_2 _ _) (int_rmul_tuple k t l _ n dd sl)
      ⟨ho, rfl, ⟨_, ho, rfl⟩, call_meets F.slot_tuple_mul ⟨_, ho, rfl⟩ F.entry_tuple_mul (F.args_tuple_mul_2 _ _) (tuple_mul0W l n dd sl k t c0) ⟨ho, ⟨.ref l, H, I, rfl, q⟩⟩⟩)
theorem reps_rep {K : PySem.W.Frag} {H : Hp} {O : AS} {ds : List D} {vs : List V} (r : Reps K H O ds vs) : ∀ m : Nat, Reps K H O (List.replicate m ds).flatten (List.replicate m vs).flatten
  | 0 => .nil
  | m + 1 => by
    rw [List.replicate_succ, List.replicate_succ, List.flatten_cons, List.flatten_cons]
    exact r.append (reps_rep r m)
theorem int_rmul_listW (a : Int) (t : Tok) (l : Addr) (items : Array Value) (n : Nat) (dd : Option Addr) (sl : Array (Option Value)) :
    Meets (Builtin.«int.__rmul__» ⟨[.int a t, .ref l], []⟩) (fun _ R s => s.heap.get? l = some { cls := .type "list", dict := dd, data := .seq items n, slots := sl } ∧ R (.ok (.ret Value.notImplemented)) s) :=
  .of_wp fun prog w A R s h => by obtain ⟨hp, g, d, tk, os⟩ := s; obtain ⟨hl, h⟩ := h; wp_walk using wpAny_loadPart' hl; exact ⟨_, rfl, h⟩
theorem list_mulW (l : Addr) (items : Array Value) (n : Nat) (dd : Option Addr) (sl : Array (Option Value)) (x : Int) (u : Tok) (hc0 : ¬(!Builtin.List.listFitsIndex x) = true) (hc1 : ¬items.size * x.toNat > (2 ^ 63 - 1) / 8) (hc2 : ¬Builtin.List.listTooLong (items.size * x.toNat) = true) :
    Meets (Builtin.«list.__mul__» ⟨[.ref l, .int x u], []⟩) (fun _ R s => s.heap.get? l = some { cls := .type "list", dict := dd, data := .seq items n, slots := sl } ∧
      R (.ok (.ret (Value.ref s.heap.objs.size))) { s with heap := s.heap.push { cls := Value.type "list", data := Data.seq (List.foldl (fun x1 x2 => x1 ++ x2) #[] (List.replicate (if items.isEmpty = true then 0 else x.toNat) items)) }, toks := s.toks }) :=
  .of_wp fun prog w A R s h => by
    obtain ⟨hp, g, d, tk, os⟩ := s
    obtain ⟨hl, h⟩ := h
    have f1 := AutoSeq1.idx_int
    have hsz := PySem.AutoListH.joined_fits hc2
    wp_walk using wpAny_loadPart' hl
    refine wpAny_ite_false (decide_eq_false (Nat.not_lt.mpr hsz)) ?_
    wp_walk using wpAny_loadPart' hl
    exact ⟨_, rfl, h⟩
theorem repS_len (n : Nat) (x : Str) : (repS n x).length = n * x.length := by
  have e : ∀ (m : Nat) (a : Array Nat), ((List.replicate m x.cps).foldl (· ++ ·) a).size = a.size + m * x.cps.size := by
    intro m
    induction m with
    | zero => intro a; simp
    | succ m ih =>
      intro a
      rw [List.replicate_succ, List.foldl_cons, ih, Array.size_append, Nat.succ_mul]
      omega
  have := e n #[]
  rw [Array.size_empty, Nat.zero_add] at this
  exact this
theorem strOk_rep {x : Str} (h : PyData.strOk x = true) (n : Nat) : PyData.strOk (repS n x) = true := by
  rw [strOk_iff] at h ⊢
  have e : ∀ (m : Nat) (a : Array Nat), (∀ c ∈ a.toList, c < 0x110000) → ∀ c ∈ ((List.replicate m x.cps).foldl (· ++ ·) a).toList, c < 0x110000 := by
    intro m
    induction m with
    | zero => intro a ha; exact ha
    | succ m ih =>
      intro a ha
      rw [List.replicate_succ, List.foldl_cons]
      refine ih _ fun c hc => ?_
      rw [Array.toList_append] at hc
      rcases List.mem_append.mp hc with q | q
      · exact ha c q
      · exact h c q
  exact e n #[] fun c hc => by cases hc
theorem od_mul : OpR X (binaryOp .Mult) (rD2 X.K mulD) := by
  intro pins s σ H x y v u Q I rx ry ⟨O, d, e, rv, hO, td, te, hf, q⟩
  unfold mulD at hf
  split at hf
  · rename_i i j
    split at hf
    · rename_i hc
      cases td.int; cases te.int; cases hf
      refine op_mul pins s σ H _ _ v u Q I rx ry ⟨i, j, rfl, rfl, ?_, q _ H (resV (.int _))⟩
      rcases Bool.or_eq_true _ _ ▸ hc with hc | hc
      · exact .inl (in64_ok hc)
      · exact .inr (in64_ok hc)
    · cases hf
  · rename_i xs k
    split at hf
    · rename_i hc
      simp only [Bool.and_eq_true, decide_eq_true_eq] at hc
      obtain ⟨⟨h2, h3⟩, h4⟩ := hc
      cases te.int; cases hf
      obtain ⟨a, vs, rfl, ha, ra⟩ := td.tuple
      have hl := Reps.length ra
      cases xs with
      | nil =>
        cases ra
        refine op_repT0 pins s σ H _ _ v u Q I rx ry ⟨a, k, rfl, rfl, ha, h2, h3, q _ _ (resV ?_)⟩
        rw [show (List.replicate k.toNat ([] : List D)).flatten = [] from List.flatten_eq_nil_iff.mpr fun l hl => (List.eq_of_mem_replicate hl)]
        rcases td with t | ⟨_, _, t⟩
        · exact t
        · exact t.elim
      | cons x xs =>
        refine op_repT pins s σ H _ _ v u Q I rx ry ⟨a, k, vs, rfl, rfl, ha, fun e => ?_, h2, h3, by omega, fun p np => q _ _ (resTup hO (reps_rep ra k.toNat) np)⟩
        subst e
        cases hl
    · cases hf
  · rename_i xs k
    split at hf
    · rename_i hc
      simp only [Bool.and_eq_true, decide_eq_true_eq] at hc
      obtain ⟨⟨h2, h3⟩, h4⟩ := hc
      cases te.int; cases hf
      obtain ⟨a, vs, rfl, ha, ra⟩ := td.list
      have hl := Reps.length ra
      cases rx
      obtain ⟨t, rfl⟩ := ry
      obtain ⟨its, r1, p1, z1⟩ := I.list ha
      obtain ⟨⟨c1, e1, d1, sl1⟩, n1, ho, hc1, hc2, hc3⟩ := p1
      simp only at hc1 hc2 hc3
      subst hc1 hc2 hc3
      have l1 := r1.length
      have hz : its.length * k.toNat ≤ 1000 * 1000 := Nat.mul_le_mul (by omega) (by omega)
      have hz' : vs.length * k.toNat ≤ 1000 * 1000 := Nat.mul_le_mul (by omega) (by omega)
      have hcap : ¬ its.toArray.size * k.toNat > (2 ^ 63 - 1) / 8 := by rw [List.size_toArray]; omega
      have hfit : ¬ (!Builtin.List.listFitsIndex k) = true := by
        rw [fitsIndex_both (by omega) (by omega)]
        exact Bool.false_ne_true
      have hlong : ¬ Builtin.List.listTooLong (its.toArray.size * k.toNat) = true := by
        rw [notLongL (by rw [List.size_toArray, sizeLine_eq]; omega)]
        exact Bool.false_ne_true
      have hnew : List.foldl (fun x1 x2 => x1 ++ x2) #[] (List.replicate (if its.toArray.isEmpty = true then 0 else k.toNat) its.toArray) = (List.replicate k.toNat its).flatten.toArray := by
        have f0 : ∀ m : Nat, List.foldl (fun x1 x2 => x1 ++ x2) #[] (List.replicate m its.toArray) = (List.replicate m its).flatten.toArray := fun m => by
          have := foldl_rep its m []
          rw [List.nil_append] at this
          exact this
        rw [f0]
        cases its with
        | nil => simp
        | cons a r' => rw [if_neg (by simp)]
      refine wpAny_binaryOp_repeat_ref (T := "list") (U := "int") (by decide) ⟨_, ho, rfl⟩ (fun s' => typeIs_int s' k t) noFill_list_mul F.fills_int_mul F.slot_int_rmul repeat_list F.slot_int_index.lookup
        (call_meets F.slot_int_rmul (typeIs_int s k t) F.entry_int_rmul (F.args_int_rmul_2 _ _) (int_rmul_listW k t a its.toArray n1 none sl1)
          ⟨ho, rfl, ⟨_, ho, rfl⟩, call_meets F.slot_list_mul ⟨_, ho, rfl⟩ F.entry_list_mul (F.args_list_mul_2 _ _) (list_mulW a its.toArray n1 none sl1 k t hfit hcap hlong) ⟨ho, ?_⟩⟩)
      rw [hnew]
      exact ⟨.ref _, _, I.lnew (t' := s.toks) (r1.rep k.toNat) (by rw [PyProof.Rows.lm_len_rep_flat, Nat.mul_comm, sizeLine_eq]; omega), rfl, q _ _ (resLst (reps_rep ra k.toNat) I.fresh)⟩
    · cases hf
  · rename_i x k
    split at hf
    · rename_i hc
      simp only [Bool.and_eq_true, decide_eq_true_eq] at hc
      obtain ⟨⟨⟨h2, h3⟩, h4⟩, h5⟩ := hc
      have sk := td.strOk
      cases te.int; cases td.str; cases hf
      obtain ⟨t, rfl⟩ := rx
      obtain ⟨t', rfl⟩ := ry
      have c0 : (decide (k < -(2 ^ 63 : Int)) || decide (k ≥ 2 ^ 63)) = false := by
        rw [decide_eq_false (by omega), decide_eq_false (by omega)] <;> rfl
      have hk : (k == 1 || x.length == 0) = false := by
        rw [Bool.or_eq_false_iff]
        exact ⟨beq_false_of_ne (by omega), beq_false_of_ne (by omega)⟩
      refine PySem.P.mul_str c0 (fun _ _ => ?_) (fun _ _ => ?_) ?_
      · have hd : k ≤ 1000 := h3
        have a1 : (1000 : Int) * k ≤ 2 ^ 63 - 1 := by omega
        have a2 : (1000 : Int) ≤ (2 ^ 63 - 1) / k := Int.le_ediv_of_mul_le (by omega) a1
        omega
      · have hz : x.length * k.toNat ≤ 1000 * 1000 := Nat.mul_le_mul (by omega) (by omega)
        exact decide_eq_false (by rw [sizeLine_eq]; omega)
      · rw [if_neg (by omega), if_neg (by rw [hk]; exact Bool.false_ne_true)]
        have hz : k.toNat * x.length ≤ 1000 * 1000 := Nat.mul_le_mul (by omega) (by omega)
        refine ⟨?_, .str (repS k.toNat x), H, I.tok _, ⟨_, rfl⟩, q _ H (resV (.str _ (strOk_rep sk _)))⟩
        have := repS_len k.toNat x
        rw [sizeLine_eq]
        exact Nat.le_trans (Nat.le_of_eq this) (by omega)
    · cases hf
  · cases hf
theorem od_fdiv : OpR X (binaryOp .FloorDiv) (rD2 X.K fdivD) := by
  intro pins s σ H x y v u Q I rx ry ⟨O, d, e, rv, hO, td, te, hf, q⟩
  unfold fdivD at hf
  split at hf
  · rename_i i j
    split at hf
    · rename_i hc
      simp only [Bool.and_eq_true, decide_eq_true_eq] at hc
      cases td.int; cases te.int; cases hf
      exact op_fdiv pins s σ H _ _ v u Q I rx ry ⟨i, j, rfl, rfl, hc, q _ H (resV (.int _))⟩
    · cases hf
  · cases hf
theorem od_mod : OpR X (binaryOp .Mod) (rD2 X.K modD) := by
  intro pins s σ H x y v u Q I rx ry ⟨O, d, e, rv, hO, td, te, hf, q⟩
  unfold modD at hf
  split at hf
  · rename_i i j
    split at hf
    · rename_i hc
      cases td.int; cases te.int; cases hf
      exact op_mod pins s σ H _ _ v u Q I rx ry ⟨i, j, rfl, rfl, of_decide_eq_true hc, q _ H (resV (.int _))⟩
    · cases hf
  · cases hf
theorem od_pow : OpR X (binaryOp .Pow) (rD2 X.K powD) := by
  intro pins s σ H x y v u Q I rx ry ⟨O, d, e, rv, hO, td, te, hf, q⟩
  unfold powD at hf
  split at hf
  · rename_i i j
    split at hf
    · rename_i hc
      simp only [Bool.and_eq_true, decide_eq_true_eq] at hc
      have h64 := in64_ok hc.2
      cases td.int; cases te.int; cases hf
      exact op_pow pins s σ H _ _ v u Q I rx ry ⟨i, j, rfl, rfl, ⟨hc.1.1, hc.1.2, by omega⟩, q _ H (resV (.int _))⟩
    · cases hf
  · cases hf
theorem ud_neg : UnR X (unaryOp .USub) (rD1 X.K negD) := by
  intro pins s σ H x v Q I rx ⟨O, d, rv, hO, td, hf, q⟩
  unfold negD at hf
  split at hf
  · rename_i i
    cases td.int; cases hf
    exact un_neg pins s σ H _ v Q I rx ⟨i, rfl, q _ H (resV (.int _))⟩
  · cases hf
theorem okE_ok {K : PySem.W.Frag} {H : Hp} {O : AS} {d : D} {x : V} (h : okE d = true) (t : Top K H O d x) : noDict d = true ∧ d.canLay0 = true ∧ d.depth ≤ 60 ∧ Dp K H x d := by
  unfold okE at h
  simp only [Bool.and_eq_true, decide_eq_true_eq] at h
  exact ⟨h.1, t.lay h.1, h.2, t.dp h.1⟩
theorem cmpOk_ok {pins : List (Addr × Obj)} {s : Shared} {σ : St} {H : Hp} {O : AS} {d e : D} {x y : V} {v u : Value} (hu : X.A.units + 66 < cLine) (I : Inv X pins σ H s) (rx : RelV x v) (ry : RelV y u) (td : Top X.K H O d x) (te : Top X.K H O e y) (h : cmpOk d e = true) :
    (∃ as, Reads s.heap v d as) ∧ (∃ bs, Reads s.heap u e bs) ∧ PySem.W.alike d e = true ∧ d ≠ .none ∧ X.A.units + min d.depth e.depth < cLine := by
  unfold cmpOk at h
  simp only [Bool.and_eq_true] at h
  obtain ⟨⟨⟨h1, h2⟩, h3⟩, h4⟩ := h
  obtain ⟨_, _, g1, p1⟩ := okE_ok h1 td
  obtain ⟨_, _, g2, p2⟩ := okE_ok h2 te
  exact ⟨Dp.reads I d x v p1 rx, Dp.reads I e y u p2 ry, h3, (fun e => by subst e; cases h4), by omega⟩
theorem od_lt (hu : X.A.units + 66 < cLine) : OpR X (compareOp .Lt) (rD2 X.K ltD) := by
  intro pins s σ H x y v u Q I rx ry ⟨O, d, e, rv, hO, td, te, hf, q⟩
  unfold ltD at hf
  split at hf
  · rename_i i j
    cases td.int; cases te.int; cases hf
    exact op_lt pins s σ H _ _ v u Q I rx ry ⟨i, j, rfl, rfl, q _ H resBl⟩
  · rename_i i j
    cases td.str; cases te.str; cases hf
    exact op_lt_str pins s σ H _ _ v u Q I rx ry ⟨i, j, rfl, rfl, q _ H resBl⟩
  · split at hf
    · rename_i hc
      cases hf
      obtain ⟨⟨as, r1⟩, ⟨bs, r2⟩, a1, a2, a3⟩ := cmpOk_ok hu I rx ry td te hc
      exact PySem.W.lt_data r1 r2 a1 a2 a3 ⟨.bl _, H, I, rfl, q _ H resBl⟩
    · cases hf
theorem od_le (hu : X.A.units + 66 < cLine) : OpR X (compareOp .LtE) (rD2 X.K leD) := by
  intro pins s σ H x y v u Q I rx ry ⟨O, d, e, rv, hO, td, te, hf, q⟩
  unfold leD at hf
  split at hf
  · rename_i i j
    cases td.int; cases te.int; cases hf
    exact op_le pins s σ H _ _ v u Q I rx ry ⟨i, j, rfl, rfl, q _ H resBl⟩
  · split at hf
    · rename_i hc
      cases hf
      obtain ⟨⟨as, r1⟩, ⟨bs, r2⟩, a1, a2, a3⟩ := cmpOk_ok hu I rx ry td te hc
      exact PySem.W.le_data r1 r2 a1 a2 a3 ⟨.bl _, H, I, rfl, q _ H resBl⟩
    · cases hf
theorem od_gt (hu : X.A.units + 66 < cLine) : OpR X (compareOp .Gt) (rD2 X.K gtD) := by
  intro pins s σ H x y v u Q I rx ry ⟨O, d, e, rv, hO, td, te, hf, q⟩
  unfold gtD at hf
  split at hf
  · rename_i i j
    cases td.int; cases te.int; cases hf
    exact op_gt pins s σ H _ _ v u Q I rx ry ⟨i, j, rfl, rfl, q _ H resBl⟩
  · split at hf
    · rename_i hc
      cases hf
      obtain ⟨⟨as, r1⟩, ⟨bs, r2⟩, a1, a2, a3⟩ := cmpOk_ok hu I rx ry td te hc
      exact PySem.W.gt_data r1 r2 a1 a2 a3 ⟨.bl _, H, I, rfl, q _ H resBl⟩
    · cases hf
theorem od_ge (hu : X.A.units + 66 < cLine) : OpR X (compareOp .GtE) (rD2 X.K geD) := by
  intro pins s σ H x y v u Q I rx ry ⟨O, d, e, rv, hO, td, te, hf, q⟩
  unfold geD at hf
  split at hf
  · rename_i i j
    cases td.int; cases te.int; cases hf
    exact op_ge pins s σ H _ _ v u Q I rx ry ⟨i, j, rfl, rfl, q _ H resBl⟩
  · split at hf
    · rename_i hc
      cases hf
      obtain ⟨⟨as, r1⟩, ⟨bs, r2⟩, a1, a2, a3⟩ := cmpOk_ok hu I rx ry td te hc
      exact PySem.W.ge_data r1 r2 a1 a2 a3 ⟨.bl _, H, I, rfl, q _ H resBl⟩
    · cases hf
theorem shaped_of {d : D} (h : d.canLay0 = true) (g : d.depth ≤ 60) : SeqAt.shaped d = true := by
  unfold SeqAt.shaped
  rw [h]
  simp only [Bool.true_and, decide_eq_true_eq]
  omega
theorem od_eq (hu : X.A.units + 66 < cLine) : OpR X (compareOp .Eq) (rD2 X.K eqD) := by
  intro pins s σ H x y v u Q I rx ry ⟨O, d, e, rv, hO, td, te, hf, q⟩
  unfold eqD at hf
  split at hf
  · rename_i hc
    simp only [Bool.and_eq_true] at hc
    obtain ⟨_, l1, g1, p1⟩ := okE_ok hc.1 td
    obtain ⟨_, l2, g2, p2⟩ := okE_ok hc.2 te
    cases hf
    exact op_eqD (by omega) pins s σ H x y v u Q I rx ry ⟨d, e, p1, p2, shaped_of l1 g1, shaped_of l2 g2, q _ H resBl⟩
  · split at hf
    · rename_i ds _
      cases hf
      obtain ⟨a, vs, rfl, ha, ra⟩ := td.tuple
      obtain ⟨b, ws, rfl, hb, rb⟩ := te.tuple
      cases rb
      cases rx; cases ry
      obtain ⟨its, r1, p1, z1⟩ := I.tuple ha
      obtain ⟨its2, r2, p2, z2⟩ := I.tuple hb
      cases r2
      have hl := r1.length
      have hm := ra.length
      have e2 : ((List.range (min its.toArray.size ([] : List Value).toArray.size)).all (fun _ => true) && its.toArray.size == ([] : List Value).toArray.size) = ds.isEmpty := by
        cases ds with
        | nil =>
          have : its = [] := List.eq_nil_of_length_eq_zero (by rw [← hl, ← hm]; rfl)
          subst this; rfl
        | cons d ds =>
          cases its with
          | nil => rw [← hm] at hl; cases hl
          | cons i its => simp
      exact PySem.W.eq_tuplesT (n := 0) (e := fun _ => true) (show s.heap.IsTuple a its.toArray from p1) (show s.heap.IsTuple b ([] : List Value).toArray from p2) (fun j h1 h2 => absurd h2 (by simp)) (by omega) (by rw [e2]; exact ⟨.bl _, H, I, rfl, q _ H resBl⟩)
    · cases hf
theorem od_ne (hu : X.A.units + 66 < cLine) : OpR X (compareOp .NotEq) (rD2 X.K neD) := by
  intro pins s σ H x y v u Q I rx ry ⟨O, d, e, rv, hO, td, te, hf, q⟩
  unfold neD at hf
  split at hf
  · rename_i hc
    simp only [Bool.and_eq_true] at hc
    obtain ⟨_, l1, g1, p1⟩ := okE_ok hc.1 td
    obtain ⟨_, l2, g2, p2⟩ := okE_ok hc.2 te
    cases hf
    exact op_neD (by omega) pins s σ H x y v u Q I rx ry ⟨d, e, p1, p2, shaped_of l1 g1, shaped_of l2 g2, q _ H resBl⟩
  · cases hf
theorem sign_of {x : Str} {c : Nat} (h : x.cps.toList = [c]) : x = ⟨#[c]⟩ := by
  obtain ⟨a⟩ := x
  have e : a = #[c] := by
    have := congrArg List.toArray h
    simpa using this
  rw [e]
/-- whether x stands in y, or does not -/
theorem od_in' {neg : Bool} (hu : X.A.units + 66 < cLine) {pins : List (Addr × Obj)} {s : Shared} {σ : L2.St} {H : Hp} {x y : V} {v u : Value} {Q : VK} {O : AS} {d e : D} {b : Bool}
    (I : Inv X pins σ H s) (rx : RelV x v) (ry : RelV y u) (td : Top X.K H O d x) (te : Top X.K H O e y) (hf : inD d e = some (.v (.bool b))) (q : Q (.bl (if neg then !b else b)) H) :
    wpAny (model X.prog X.w) X.A (compareOp (if neg then .NotIn else .In) v u) (EP X pins σ Q) X.xe s := by
  have dropD : ∀ ys : List D, (okE d && noDicts ys) = true → okE d = true ∧ noDicts ys = true := fun ys h => by simpa only [Bool.and_eq_true] using h
  unfold inD at hf
  split at hf
  · rename_i ys
    split at hf
    · rename_i hc
      obtain ⟨c1, c2⟩ := dropD _ hc
      obtain ⟨_, l1, g1, p1⟩ := okE_ok c1 td
      have n2 : noDict (.list ys) = true := by simpa [noDict] using c2
      obtain ⟨as, r1⟩ := Dp.reads I _ _ _ p1 rx
      obtain ⟨bs, r2⟩ := Dp.reads I _ _ _ (te.dp n2) ry
      have l2 : PyData.canLayAll0 ys = true := by have := te.lay n2; rwa [PyData.canLay0] at this
      have hm : min (PyData.depthAll ys) d.depth ≤ d.depth := Nat.min_le_right _ _
      cases hf
      cases neg with
      | false => exact SeqAt.in_list_reads r2 r1 l2 l1 (by omega) ⟨.bl _, H, I, rfl, q⟩
      | true => exact SeqAt.notIn_list_reads r2 r1 l2 l1 (by omega) ⟨.bl _, H, I, rfl, q⟩
    · cases hf
  · rename_i ys
    split at hf
    · rename_i hc
      obtain ⟨c1, c2⟩ := dropD _ hc
      obtain ⟨_, l1, g1, p1⟩ := okE_ok c1 td
      have n2 : noDict (.tuple ys) = true := by simpa [noDict] using c2
      obtain ⟨as, r1⟩ := Dp.reads I _ _ _ p1 rx
      obtain ⟨bs, r2⟩ := Dp.reads I _ _ _ (te.dp n2) ry
      have l2 : PyData.canLayAll0 ys = true := by have := te.lay n2; rwa [PyData.canLay0] at this
      have hm : min (PyData.depthAll ys) d.depth ≤ d.depth := Nat.min_le_right _ _
      cases hf
      cases neg with
      | false => exact SeqAt.in_tuple_reads r2 r1 l2 l1 (by omega) ⟨.bl _, H, I, rfl, q⟩
      | true => exact SeqAt.notIn_tuple_reads r2 r1 l2 l1 (by omega) ⟨.bl _, H, I, rfl, q⟩
    · cases hf
  · rename_i x' z
    split at hf
    · rename_i c hx
      cases td.str; cases te.str
      have ex := sign_of hx
      subst ex
      cases hf
      cases neg with
      | false => exact op_in_sign pins s σ H _ _ v u Q I rx ry ⟨c, z, rfl, rfl, q⟩
      | true => exact op_notIn_sign pins s σ H _ _ v u Q I rx ry ⟨c, z, rfl, rfl, q⟩
    · cases hf
  · rename_i x' ds
    split at hf
    · rename_i hk
      obtain ⟨k, rfl⟩ := isKD_ok hk
      have ex : x = kV k := by
        cases k with
        | inl i => exact td.int
        | inr i => exact td.str
      subst ex
      obtain ⟨a, kvs, rfl, e, r⟩ := te.dict
      cases ry
      have g : DGet H a (kV k) (valV kvs k) := DGet.k e
      have ee : (getK ds (kD k)).isSome = (valV kvs k).isSome := by
        rcases getK_ok (k := k) r with ⟨g1, g2⟩ | ⟨_, _, g1, g2, _⟩ <;> rw [g1, g2] <;> rfl
      cases hf
      rw [ee] at q
      cases neg with
      | false => exact d_in (by omega) I g rx fun s' I' => ⟨.bl (valV kvs k).isSome, H, I', rfl, q⟩
      | true => exact d_notIn (by omega) I g rx fun s' I' => ⟨.bl (!(valV kvs k).isSome), H, I', rfl, q⟩
    · cases hf
  · cases hf
theorem inD_bool {d e : D} {rv : RV} (h : inD d e = some rv) : ∃ b, rv = .v (.bool b) := by
  unfold inD bl at h
  split at h
  · split at h <;> first | (cases h; exact ⟨_, rfl⟩) | cases h
  · split at h <;> first | (cases h; exact ⟨_, rfl⟩) | cases h
  · split at h <;> first | (cases h; exact ⟨_, rfl⟩) | cases h
  · split at h <;> first | (cases h; exact ⟨_, rfl⟩) | cases h
  · cases h
theorem od_in (hu : X.A.units + 66 < cLine) : OpR X (compareOp .In) (rD2 X.K inD) := by
  intro pins s σ H x y v u Q I rx ry ⟨O, d, e, rv, hO, td, te, hf, q⟩
  obtain ⟨b, rfl⟩ := inD_bool hf
  exact od_in' (neg := false) hu I rx ry td te hf (q _ H resBl)
theorem od_notIn (hu : X.A.units + 66 < cLine) : OpR X (compareOp .NotIn) (rD2 X.K notInD) := by
  intro pins s σ H x y v u Q I rx ry ⟨O, d, e, rv, hO, td, te, hf, q⟩
  unfold notInD at hf
  split at hf
  · rename_i b hb
    cases hf
    exact od_in' (neg := true) hu I rx ry td te hb (q _ H resBl)
  · cases hf
theorem top_non {K : PySem.W.Frag} {H : Hp} {O : AS} {d : D} {x : V} (t : Top K H O d x) : (decide (x = .non)) = isN d := by
  rcases t with t | ⟨a, rfl, t⟩
  · cases t <;> rfl
  · cases d <;> first | exact (show False from t).elim | rfl
theorem od_is' {neg : Bool} {pins : List (Addr × Obj)} {s : Shared} {σ : L2.St} {H : Hp} {x y : V} {v u : Value} {Q : VK} {O : AS} {d e : D} {b : Bool}
    (I : Inv X pins σ H s) (rx : RelV x v) (ry : RelV y u) (td : Top X.K H O d x) (te : Top X.K H O e y) (hf : isD d e = some (.v (.bool b))) (q : Q (.bl (if neg then !b else b)) H) :
    wpAny (model X.prog X.w) X.A (compareOp (if neg then .IsNot else .Is) v u) (EP X pins σ Q) X.xe s := by
  unfold isD bl at hf
  split at hf
  · cases te.non
    have e := top_non td
    cases hf
    rw [← e] at q
    cases neg with
    | false => exact op_isN pins s σ H _ _ v u Q I rx ry ⟨rfl, q⟩
    | true => exact op_notN pins s σ H _ _ v u Q I rx ry ⟨rfl, q⟩
  · rename_i a c
    cases td.bl; cases te.bl; cases hf
    cases neg with
    | false => exact op_is_bl pins s σ H _ _ v u Q I rx ry ⟨a, c, rfl, rfl, q⟩
    | true => exact op_isnot_bl pins s σ H _ _ v u Q I rx ry ⟨a, c, rfl, rfl, q⟩
  · cases hf
theorem isD_bool {d e : D} {rv : RV} (h : isD d e = some rv) : ∃ b, rv = .v (.bool b) := by
  unfold isD bl at h
  split at h <;> first | (cases h; exact ⟨_, rfl⟩) | cases h
theorem od_is : OpR X (compareOp .Is) (rD2 X.K isD) := by
  intro pins s σ H x y v u Q I rx ry ⟨O, d, e, rv, hO, td, te, hf, q⟩
  obtain ⟨b, rfl⟩ := isD_bool hf
  exact od_is' (neg := false) I rx ry td te hf (q _ H resBl)
theorem od_isNot : OpR X (compareOp .IsNot) (rD2 X.K isNotD) := by
  intro pins s σ H x y v u Q I rx ry ⟨O, d, e, rv, hO, td, te, hf, q⟩
  unfold isNotD at hf
  split at hf
  · rename_i b hb
    cases hf
    exact od_is' (neg := true) I rx ry td te hb (q _ H resBl)
  · cases hf
theorem atI_reps {K : PySem.W.Frag} {H : Hp} {O : AS} {ds : List D} {vs : List V} {i : Int} {d : D} (r : Reps K H O ds vs) (h : atI ds i = some d) : ∃ v, atI vs i = some v ∧ Rep K H O d v := by
  unfold atI at h ⊢
  rw [← r.length]
  cases e : ixN ds.length i with
  | none => rw [e] at h; cases h
  | some j =>
    rw [e] at h
    exact r.get h
theorem ixd (hu : X.A.units + 66 < cLine) : IxR X (rD2 X.K ixD) := by
  intro value slice pins s σ H x y v u Q I rx ry ⟨O, d, e, rv, hO, td, te, hf, q⟩ hs
  unfold ixD at hf
  split at hf
  · rename_i xs i
    cases te.int
    obtain ⟨a, vs, rfl, ha, ra⟩ := td.list
    cases hx : atI xs i with
    | none => rw [hx] at hf; cases hf
    | some w =>
      rw [hx] at hf; cases hf
      obtain ⟨z, e1, e2⟩ := atI_reps ra hx
      exact ix_list value slice pins s σ H _ _ v u Q I rx ry ⟨a, vs, i, z, rfl, rfl, ha, e1, q _ _ (resV e2)⟩ hs
  · rename_i xs i
    cases te.int
    obtain ⟨a, vs, rfl, ha, ra⟩ := td.tuple
    cases hx : atI xs i with
    | none => rw [hx] at hf; cases hf
    | some w =>
      rw [hx] at hf; cases hf
      obtain ⟨z, e1, e2⟩ := atI_reps ra hx
      exact ix_tup value slice pins s σ H _ _ v u Q I rx ry ⟨a, vs, i, z, rfl, rfl, ha, e1, q _ _ (resV e2)⟩ hs
  · rename_i z i
    split at hf
    · rename_i hz
      have sk := td.strOk
      cases te.int; cases td.str
      cases hx : atI z.cps.toList i with
      | none => rw [hx] at hf; cases hf
      | some w =>
        rw [hx] at hf; cases hf
        have hm : w ∈ z.cps.toList := by
          unfold atI at hx
          cases e : ixN z.cps.toList.length i with
          | none => rw [e] at hx; cases hx
          | some j => rw [e] at hx; exact List.mem_of_getElem? hx
        exact ix_str value slice pins s σ H _ _ v u Q I rx ry ⟨z, i, w, rfl, rfl, szb_ok hz, hx, q _ _ (resV (.str _ (strOk_one sk hm)))⟩ hs
    · cases hf
  · rename_i ds x'
    split at hf
    · rename_i hk
      obtain ⟨k, rfl⟩ := isKD_ok hk
      have ex : y = kV k := by
        cases k with
        | inl i => exact te.int
        | inr i => exact te.str
      subst ex
      obtain ⟨a, kvs, rfl, e, r⟩ := td.dict
      cases rx
      rcases getK_ok (k := k) r with ⟨g1, g2⟩ | ⟨d', v', g1, g2, g3⟩
      · rw [g1] at hf; cases hf
      · rw [g1] at hf; cases hf
        have g : DGet H a (kV k) (some v') := by rw [← g2]; exact DGet.k e
        exact tail_any (dict_typeIs I g) PySem.F.slot_dict_getitem.lookup (d_getItem (by omega) I g ry fun w' s3 I3 rw' => ⟨v', H, I3, rw', q _ _ (resV g3)⟩) hs
    · cases hf
  · cases hf
end
end Z
namespace Z
/-! sorted(t) of a tuple -/
section
open PySem PySem.Calls PyProof.Rows PySem.W
variable {prog : Program} {w : World} {M : Model} {A : Around} {E : Value → Shared → Prop} {s : Shared} {β : Type} {vs : List Value} {bs : List β} {enc : β → PyData} {R : Value → β → Prop}
theorem collect_tup {l : Addr} {Q : List Value → Shared → Prop} (hl : IsTup s.heap l vs.toArray)
    (h : Q vs { s with heap := (s.heap.push (seqObj "list" #[] 0)).update s.heap.objs.size (Obj.mapSeq (· ++ vs.toArray)) }) (hsz : vs.length ≤ sizeLine) :
    wpAny (model prog w) A (collect (.ref l)) Q E s := by
  obtain ⟨o, ho, hc, n, hd⟩ := id hl
  unfold collect
  refine wpAny_bind (wpAny_runValue (codeAny_builtin entry_proto_collect' ?_))
  show wpAny _ _ (do again (.builtin "list.__iadd__" ⟨[← newList [], .ref l], []⟩)) _ _ s
  refine wpAny_bind (wpAny_newList (wpAny_pure ⟨Code.quiet_builtin _ (by decide +kernel), codeAny_builtin entry_list_iadd' ?_⟩))
  show wpAny _ _ (Builtin.List.listExtendWith (.ref s.heap.objs.size) (.ref l) (.ref s.heap.objs.size)) _ _ { s with heap := s.heap.push (seqObj "list" #[] 0) }
  unfold Builtin.List.listExtendWith
  have ho' : (s.heap.push (seqObj "list" #[] 0)).get? l = some o := Heap.get?_push_of_some _ ho
  refine wpAny_bind (wpAny_typeOf (T := "tuple") ⟨o, ho', hc⟩ ?_)
  have ht : (Value.type "tuple" == Value.type "tuple") = true := by rfl
  rw [if_pos (by rw [ht]; simp)]
  refine wpAny_bind (listItems_at ho' hd ?_)
  refine wpAny_bind (listItems_at (xs := #[]) (n := 0) (Heap.get?_push_size _ rfl) rfl ?_)
  rw [if_neg (by simp)]
  refine wpAny_bind (listUpdate_at (xs := #[]) (n := 0) (Heap.get?_push_size _ rfl) rfl ?_ (Nat.zero_le _) (by show (#[] ++ vs.toArray).size ≤ sizeLine + 1; simp only [Array.size_append, List.size_toArray, List.length_nil]; omega))
  refine wpAny_pure ?_
  show wpAny (model prog w) A (do
      let o ← load s.heap.objs.size
      match o.data with
      | .seq xs _ => pure xs.toList
      | _ => unsupported "internal:collect") Q E { s with heap := (s.heap.push (seqObj "list" #[] 0)).update s.heap.objs.size (Obj.mapSeq (· ++ vs.toArray)) }
  refine wpAny_bind (wpAny_load (get?_update_seq (Heap.get?_push_size _ rfl) _) ?_)
  show wpAny _ _ (pure ((#[] : Array Value) ++ vs.toArray).toList) Q E _
  rw [show ((#[] : Array Value) ++ vs.toArray).toList = vs by simp]
  exact wpAny_pure h
theorem sorted_of_sort_t {l : Addr} {kw : List (Str × Value)} {Q : Value → Shared → Prop} (hl : IsTup s.heap l vs.toArray) (hL : vs.length ≤ sizeLine) (ha1 : argsOk "sorted" ⟨[.ref l], kw⟩) (ha2 : ∀ x, argsOk "list.sort" ⟨[.ref x], kw⟩)
    (body : ∀ E' : Value → Shared → Prop, wpAny (model prog w) A.in1.in1 (Builtin.«list.sort» ⟨[.ref (s.heap.objs.size + 1)], kw⟩) (fun f s' => f = .done (.ret .none) ∧ Q (.ref (s.heap.objs.size + 1)) s') E' { s with heap := copyHeap s.heap vs }) :
    wpAny (model prog w) A (call (.builtin "sorted") [.ref l] kw) Q E s := by
  refine call_function_entry_kw kind_sorted plain_sorted entry_sorted ha1 ?_
  unfold Builtin.«sorted»
  refine wpAny_bind (m := checkCount "sorted" 1 1 _) (wpAny_pure ?_)
  refine wpAny_bind (collect_tup hl ?_ hL)
  refine wpAny_bind (wpAny_newList ?_ hL)
  have hsz : ((s.heap.push (seqObj "list" #[] 0)).update s.heap.objs.size (Obj.mapSeq (· ++ vs.toArray))).objs.size = s.heap.objs.size + 1 := by
    rw [Heap.size_update, size_push']
  show wpAny _ _ _ _ _ { s with heap := copyHeap s.heap vs }
  rw [hsz]
  refine wpAny_bind (wpAny_holding (wpAny_call_entry_kw slot_list_sort ⟨_, copyHeap_at s.heap vs, rfl⟩ entry_list_sort ?body (ha2 _)))
  case body =>
    show wpAny (model prog w) A.in1.in1 (Builtin.«list.sort» ⟨[.ref (s.heap.objs.size + 1)], kw⟩) _ _ _
    refine wpAny_mono (body _) (fun f s' hf => ?_) fun _ _ e => e
    obtain ⟨rfl, hq⟩ := hf
    exact ⟨_, rfl, wpAny_pure ⟨_, rfl, hq⟩⟩
theorem sorted_vals_t {κ : PyProof.Rows.KeyKind} {l : Addr} {Q : Value → Shared → Prop} (hl : IsTup s.heap l vs.toArray) (S : SortsAt prog w A.in1.in1 { s with heap := sortingHeap (copyHeap s.heap vs) (s.heap.objs.size + 1) vs } κ vs) (hL : vs.length ≤ sizeLine)
    (h : Q (.ref (s.heap.objs.size + 1)) { s with heap := sortedAll s.heap vs (sortVals κ false vs vs).toArray }) : wpAny (model prog w) A (call (.builtin "sorted") [.ref l]) Q E s :=
  sorted_of_sort_t hl hL (args_sorted1 _) (fun _ => args_list_sort _) fun _ => list_sort_vals (s := { s with heap := copyHeap s.heap vs }) (copyHeap_at s.heap vs) S hL ⟨rfl, h⟩
theorem SortsAt.few {vs : List Value} {ds : List PyData} (e : EachIs (fun v d => ∃ as, Reads s.heap v d as) vs ds) (hal : AllAlike ds) (hn : ∀ d, d ∈ ds → d ≠ .none) (hl : vs.length ≤ 1) (hu : ∀ d, d ∈ ds → A.units + d.depth < cLine) : SortsAt prog w A s (dataKind s.heap ds) vs := by
  have room : ∀ {d d' : PyData}, d ∈ ds → A.units + min d.depth d'.depth < cLine := fun {d d'} hd => Nat.lt_of_le_of_lt (Nat.add_le_add_left (Nat.min_le_left _ _) _) (hu d hd)
  refine ⟨fun v hv => ?_, general', ?_, fun h2 E Q hq => absurd h2 (by omega)⟩
  · obtain ⟨d, hd, as, r⟩ := e.left v hv
    exact ⟨_, dataKind_some hal hd r⟩
  · intro E x y a b Q ha hb hq
    obtain ⟨d, as, hd, ra, rfl⟩ := dataKind_inv ha
    obtain ⟨d', as', hd', rb, rfl⟩ := dataKind_inv hb
    show wpAny (model prog w) A (oneLt' false x y) Q E s
    exact oneLt_alike (fun h => by cases h) ra rb (hal d hd d' hd') (hn d hd) (room hd) hq
def Sortable1 (ds : List PyData) : Prop := Sortable ds ∨ (ds.length ≤ 1 ∧ ∀ d, d ∈ ds → d ≠ .none)
theorem SortsAt.data1 {vs : List Value} {ds : List PyData} (e : EachIs (fun v d => ∃ as, Reads s.heap v d as) vs ds) (hal : AllAlike ds) (hk : Sortable1 ds) (hu : ∀ d, d ∈ ds → A.units + d.depth < cLine) : SortsAt prog w A s (dataKind s.heap ds) vs := by
  rcases hk with hk | ⟨hk, hn⟩
  · exact SortsAt.data e hal hk hu
  · exact SortsAt.few e hal hn (by rw [e.length]; exact hk) hu
theorem sorted_data_t {l : Addr} {Q : Value → Shared → Prop} (hl : IsTup s.heap l vs.toArray) (e : EachIs R vs bs) (er : EachIs (fun v b => ∃ as, Reads s.heap v (enc b) as) vs bs) (hal : AllAlike (bs.map enc)) (hk : Sortable1 (bs.map enc)) (hL : bs.length ≤ sizeLine)
    (hu : ∀ b, b ∈ bs → A.units + 2 + (enc b).depth < cLine) (h : ∀ out, out.length = bs.length → EachIs R out (bs.mergeSort (dataLe false enc)) → Q (.ref (s.heap.objs.size + 1)) { s with heap := sortedAll s.heap vs (List.toArray out) }) :
    wpAny (model prog w) A (call (.builtin "sorted") [.ref l]) Q E s := by
  have er' : EachIs (fun v b => ∃ as, Reads (sortingHeap (copyHeap s.heap vs) (s.heap.objs.size + 1) vs) v (enc b) as) vs bs := er.mono fun _ _ ⟨as, r⟩ => ⟨as, PyProof.Rows.Reads.keeps (fun _ _ => sorting_copy_old) r⟩
  exact sorted_vals_t hl (SortsAt.data1 (s := { s with heap := sortingHeap (copyHeap s.heap vs) (s.heap.objs.size + 1) vs }) (each_map (R := fun v d => ∃ as, Reads (sortingHeap (copyHeap s.heap vs) (s.heap.objs.size + 1) vs) v d as) enc er') hal hk (bound_map hu)) (by rw [e.length]; exact hL)
    (h _ (by rw [sortVals_length false rfl]; exact e.length) (sortVals_data false e er' hal))
theorem sorted_data_l {l : Addr} {Q : Value → Shared → Prop} (hl : s.heap.IsList l vs.toArray) (e : EachIs R vs bs) (er : EachIs (fun v b => ∃ as, Reads s.heap v (enc b) as) vs bs) (hal : AllAlike (bs.map enc)) (hk : Sortable1 (bs.map enc)) (hL : bs.length ≤ sizeLine)
    (hu : ∀ b, b ∈ bs → A.units + 2 + (enc b).depth < cLine) (h : ∀ out, out.length = bs.length → EachIs R out (bs.mergeSort (dataLe false enc)) → Q (.ref (s.heap.objs.size + 1)) { s with heap := sortedAll s.heap vs (List.toArray out) }) :
    wpAny (model prog w) A (call (.builtin "sorted") [.ref l]) Q E s := by
  have er' : EachIs (fun v b => ∃ as, Reads (sortingHeap (copyHeap s.heap vs) (s.heap.objs.size + 1) vs) v (enc b) as) vs bs := er.mono fun _ _ ⟨as, r⟩ => ⟨as, PyProof.Rows.Reads.keeps (fun _ _ => sorting_copy_old) r⟩
  exact sorted_vals hl (SortsAt.data1 (s := { s with heap := sortingHeap (copyHeap s.heap vs) (s.heap.objs.size + 1) vs }) (each_map (R := fun v d => ∃ as, Reads (sortingHeap (copyHeap s.heap vs) (s.heap.objs.size + 1) vs) v d as) enc er') hal hk (bound_map hu)) (by rw [e.length]; exact hL)
    (h _ (by rw [sortVals_length false rfl]; exact e.length) (sortVals_data false e er' hal))
end
open PySem PySem.Spec L2
open PyProof.Rows hiding St

/-! ## built-ins on data -/
def intsOf : List D → Option (List Int)
  | [] => some []
  | .int i :: r => (intsOf r).map (i :: ·)
  | _ :: _ => none
def boolsOf : List D → Option (List Bool)
  | [] => some []
  | .bool i :: r => (boolsOf r).map (i :: ·)
  | _ :: _ => none
def strsOf : List D → Option (List Str)
  | [] => some []
  | .str i :: r => (strsOf r).map (i :: ·)
  | _ :: _ => none
theorem intsOf_ok : ∀ {ds : List D} {ns : List Int}, intsOf ds = some ns → ds = ns.map .int
  | [], ns, h => by cases h; rfl
  | d :: r, ns, h => by
    unfold intsOf at h
    split at h
    · rename_i e; cases e
    · rename_i i r' e
      obtain ⟨e1, e2⟩ := List.cons.inj e
      subst e1; subst e2
      cases q : intsOf r with
      | none => rw [q] at h; cases h
      | some ms => rw [q] at h; cases h; rw [intsOf_ok q]; rfl
    · cases h
theorem boolsOf_ok : ∀ {ds : List D} {ns : List Bool}, boolsOf ds = some ns → ds = ns.map .bool
  | [], ns, h => by cases h; rfl
  | d :: r, ns, h => by
    unfold boolsOf at h
    split at h
    · rename_i e; cases e
    · rename_i i r' e
      obtain ⟨e1, e2⟩ := List.cons.inj e
      subst e1; subst e2
      cases q : boolsOf r with
      | none => rw [q] at h; cases h
      | some ms => rw [q] at h; cases h; rw [boolsOf_ok q]; rfl
    · cases h
theorem strsOf_ok : ∀ {ds : List D} {ns : List Str}, strsOf ds = some ns → ds = ns.map .str
  | [], ns, h => by cases h; rfl
  | d :: r, ns, h => by
    unfold strsOf at h
    split at h
    · rename_i e; cases e
    · rename_i i r' e
      obtain ⟨e1, e2⟩ := List.cons.inj e
      subst e1; subst e2
      cases q : strsOf r with
      | none => rw [q] at h; cases h
      | some ms => rw [q] at h; cases h; rw [strsOf_ok q]; rfl
    · cases h
theorem intsOf_map : ∀ ns : List Int, intsOf (ns.map .int) = some ns
  | [] => rfl
  | n :: ns => by rw [List.map_cons, intsOf, intsOf_map ns]; rfl
theorem boolsOf_map : ∀ ns : List Bool, boolsOf (ns.map .bool) = some ns
  | [] => rfl
  | n :: ns => by rw [List.map_cons, boolsOf, boolsOf_map ns]; rfl
theorem strsOf_map : ∀ ns : List Str, strsOf (ns.map .str) = some ns
  | [] => rfl
  | n :: ns => by rw [List.map_cons, strsOf, strsOf_map ns]; rfl
def lenD : List D → Option RV
  | [.list ds] => some (.v (.int ds.length))
  | [.tuple ds] => some (.v (.int ds.length))
  | [.dict ds] => some (.v (.int ds.length))
  | [.str s] => if szb s.length then some (.v (.int s.length)) else none
  | _ => none
def intD : List D → Option RV
  | [.int i] => some (.v (.int i))
  | [.bool b] => some (.v (.int (if b then 1 else 0)))
  | [.str s] => if decide (s.length ≤ 640) then (PySem.intText? s).map fun n => .v (.int n) else none
  | _ => none
def absD : List D → Option RV
  | [.int i] => some (.v (.int (if i < 0 then -i else i)))
  | _ => none
def maxOf : List Int → Int
  | [] => 0
  | [x] => x
  | x :: y :: r => if maxOf (y :: r) > x then maxOf (y :: r) else x
def minOf : List Int → Int
  | [] => 0
  | [x] => x
  | x :: y :: r => if minOf (y :: r) < x then minOf (y :: r) else x
def maxD : List D → Option RV
  | [.int i, .int j] => some (.v (.int (if j > i then j else i)))
  | [.list ds] => match intsOf ds with
    | some (n :: ns) => some (.v (.int (maxOf (n :: ns))))
    | _ => none
  | _ => none
def minD : List D → Option RV
  | [.int i, .int j] => some (.v (.int (if j < i then j else i)))
  | [.list ds] => match intsOf ds with
    | some (n :: ns) => some (.v (.int (minOf (n :: ns))))
    | _ => none
  | _ => none
def sumD : List D → Option RV
  | [.list ds] => (intsOf ds).map fun ns => .v (.int ns.sum)
  | _ => none
def allD : List D → Option RV
  | [.list ds] => (boolsOf ds).map fun bs => .v (.bool (bs.all id))
  | _ => none
def anyD : List D → Option RV
  | [.list ds] => (boolsOf ds).map fun bs => .v (.bool (bs.any id))
  | _ => none
def divmodD : List D → Option RV
  | [.int i, .int j] => if decide (0 < j) && decide (j < 1073741824) then some (.v (.tuple [.int (i / j), .int (i % j)])) else none
  | _ => none
def tupleD : List D → Option RV
  | [.list ds] => some (.v (.tuple ds))
  | [.tuple ds] => some (.v (.tuple ds))
  | _ => none
def listD : List D → Option RV
  | [.list ds] => some (.o (.list ds))
  | [.tuple ds] => some (.o (.list ds))
  | [.dict ds] => some (.o (.list (ds.map (·.1))))
  | _ => none
def strD : List D → Option RV
  | [.int i] => if decide (i.natAbs.log2 < 1920) then some (.v (.str (toString i))) else none
  | _ => none
/-- the smallest first -/
def srtOk (ds : List D) : Bool := (ds.all fun d => ds.all fun e => PySem.W.alike d e) && (ds.all okE && ((ds.all fun d => match d with
  | .tuple (_ :: _) => true
  | _ => false) || ds.all fun d => match d with
  | .none => false
  | .tuple _ => false
  | _ => true))
def sortL (ds : List D) : List D := ds.mergeSort (PySem.W.dataLe false id)
/-- one thing alone -/
def oneOk (ds : List D) : Bool := decide (ds.length ≤ 1) && ((ds.all fun d => ds.all fun e => PySem.W.alike d e) && (ds.all okE && ds.all fun d => match d with
  | .none => false
  | _ => true))
def srtD (ds : List D) : Option RV := if srtOk ds || oneOk ds then some (.o (.list (sortL ds))) else none
def sortedD : List D → Option RV
  | [.list ds] => srtD ds
  | [.tuple ds] => srtD ds
  | _ => none
theorem srtD_ok {ds : List D} (h : srtOk ds = true) : srtD ds = some (.o (.list (sortL ds))) := by
  unfold srtD
  rw [h, Bool.true_or, if_pos rfl]
def joinD (a : D) : List D → Option RV
  | [.list ds] => match a, strsOf ds with
    | .str s, some ys => if szb ((ys.map (·.length)).sum + ys.length * s.length) then some (.v (.str (Txt.join s ys))) else none
    | _, _ => none
  | _ => none

theorem strOk_of (x : String) : PyData.strOk (Str.ofString x) = true := by
  rw [strOk_iff, Str.ofString_eq_toList]
  intro c hc
  have hc : c ∈ (x.toList.map Char.toNat).toArray.toList := hc
  rw [List.toList_toArray] at hc
  obtain ⟨d, _, e⟩ := List.mem_map.mp hc
  rw [← e]
  have := d.valid
  rcases this with h | ⟨_, h⟩
  · have : d.toNat < 0xd800 := h
    omega
  · exact h
section
variable {X : Cx}
theorem reps_list {K : PySem.W.Frag} {H : Hp} {O : AS} {ds : List D} {v : V} (t : Top K H O (.list ds) v) : ∃ a vs, v = .ref a ∧ SqL K H a vs ∧ Reps K H O ds vs := t.list
theorem cd_len : CallR X (.builtin "len") (rDs X.K lenD) := by
  intro pins s σ H xs us Q I r ⟨O, ds, rv, hO, ts, hf, q⟩
  unfold lenD at hf
  split at hf
  · rename_i es
    match xs, ts with
    | [x], ⟨t, _⟩ =>
      obtain ⟨a, vs, rfl, ha, ra⟩ := t.list
      cases hf
      exact call_len_seq pins s σ H _ us Q I r ⟨a, vs, rfl, .inl ha, by rw [← ra.length]; exact q _ H (resV (.int _))⟩
    | _ :: _ :: _, ⟨_, t⟩ => exact t.elim
  · rename_i es
    match xs, ts with
    | [x], ⟨t, _⟩ =>
      obtain ⟨a, vs, rfl, ha, ra⟩ := t.tuple
      cases hf
      exact call_len_seq pins s σ H _ us Q I r ⟨a, vs, rfl, .inr ha, by rw [← ra.length]; exact q _ H (resV (.int _))⟩
    | _ :: _ :: _, ⟨_, t⟩ => exact t.elim
  · rename_i es
    match xs, ts with
    | [x], ⟨t, _⟩ =>
      obtain ⟨a, kvs, rfl, ha, ra⟩ := t.dict
      cases hf
      exact call_lenD pins s σ H _ us Q I r ⟨a, kvs, rfl, ha, by rw [← ra.length]; exact q _ H (resV (.int _))⟩
    | _ :: _ :: _, ⟨_, t⟩ => exact t.elim
  · rename_i z
    split at hf
    · rename_i hz
      match xs, ts with
      | [x], ⟨t, _⟩ =>
        cases t.str
        cases hf
        exact call_len_str pins s σ H _ us Q I r ⟨z, rfl, szb_ok hz, q _ H (resV (.int _))⟩
      | _ :: _ :: _, ⟨_, t⟩ => exact t.elim
    · cases hf
  · cases hf
theorem tops1 {K : PySem.W.Frag} {H : Hp} {O : AS} {d : D} {xs : List V} (h : Tops K H O [d] xs) : ∃ x, xs = [x] ∧ Top K H O d x := by
  match xs, h with
  | [x], ⟨t, _⟩ => exact ⟨x, rfl, t⟩
  | _ :: _ :: _, ⟨_, t⟩ => exact t.elim
theorem tops2 {K : PySem.W.Frag} {H : Hp} {O : AS} {d e : D} {xs : List V} (h : Tops K H O [d, e] xs) : ∃ x y, xs = [x, y] ∧ Top K H O d x ∧ Top K H O e y := by
  match xs, h with
  | [x], ⟨_, t⟩ => exact t.elim
  | [x, y], ⟨t, t2, _⟩ => exact ⟨x, y, rfl, t, t2⟩
  | _ :: _ :: _ :: _, ⟨_, _, t⟩ => exact t.elim
theorem cd_int : CallR X (.type "int") (rDs X.K intD) := by
  intro pins s σ H xs us Q I r ⟨O, ds, rv, hO, ts, hf, q⟩
  unfold intD at hf
  split at hf
  · obtain ⟨x, rfl, t⟩ := tops1 ts
    cases t.int; cases hf
    exact call_int1 pins s σ H _ us Q I r (.inl ⟨_, rfl, q _ H (resV (.int _))⟩)
  · obtain ⟨x, rfl, t⟩ := tops1 ts
    cases t.bl; cases hf
    exact call_int1 pins s σ H _ us Q I r (.inr ⟨_, rfl, q _ H (resV (.int _))⟩)
  · rename_i z
    obtain ⟨x, rfl, t⟩ := tops1 ts
    split at hf
    · rename_i hz
      cases t.str
      cases e : PySem.intText? z with
      | none => rw [e] at hf; cases hf
      | some n =>
        rw [e] at hf; cases hf
        exact call_int_str pins s σ H _ us Q I r ⟨z, n, rfl, e, of_decide_eq_true hz, q _ H (resV (.int _))⟩
    · cases hf
  · cases hf
theorem cd_abs : CallR X (.builtin "abs") (rDs X.K absD) := by
  intro pins s σ H xs us Q I r ⟨O, ds, rv, hO, ts, hf, q⟩
  unfold absD at hf
  split at hf
  · obtain ⟨x, rfl, t⟩ := tops1 ts
    cases t.int; cases hf
    exact call_abs pins s σ H _ us Q I r ⟨_, rfl, q _ H (resV (.int _))⟩
  · cases hf
theorem maxOf_ok : ∀ {n : Int} {ns : List Int}, maxOf (n :: ns) ∈ n :: ns ∧ ∀ y ∈ n :: ns, y ≤ maxOf (n :: ns)
  | n, [] => ⟨by simp [maxOf], fun y h => by rw [List.mem_singleton.mp h]; exact Int.le_refl _⟩
  | n, m :: ns => by
    obtain ⟨h1, h2⟩ := maxOf_ok (n := m) (ns := ns)
    rw [maxOf]
    split
    · rename_i hc
      refine ⟨List.mem_cons_of_mem _ h1, fun y hy => ?_⟩
      rcases List.mem_cons.mp hy with e | e
      · subst e; omega
      · exact h2 y e
    · rename_i hc
      refine ⟨List.mem_cons_self, fun y hy => ?_⟩
      rcases List.mem_cons.mp hy with e | e
      · subst e; exact Int.le_refl _
      · have := h2 y e; omega
theorem minOf_ok : ∀ {n : Int} {ns : List Int}, minOf (n :: ns) ∈ n :: ns ∧ ∀ y ∈ n :: ns, minOf (n :: ns) ≤ y
  | n, [] => ⟨by simp [minOf], fun y h => by rw [List.mem_singleton.mp h]; exact Int.le_refl _⟩
  | n, m :: ns => by
    obtain ⟨h1, h2⟩ := minOf_ok (n := m) (ns := ns)
    rw [minOf]
    split
    · rename_i hc
      refine ⟨List.mem_cons_of_mem _ h1, fun y hy => ?_⟩
      rcases List.mem_cons.mp hy with e | e
      · subst e; omega
      · exact h2 y e
    · rename_i hc
      refine ⟨List.mem_cons_self, fun y hy => ?_⟩
      rcases List.mem_cons.mp hy with e | e
      · subst e; exact Int.le_refl _
      · have := h2 y e; omega
theorem cd_max (hc : X.calm = true) : CallR X (.builtin "max") (rDs X.K maxD) := by
  intro pins s σ H xs us Q I r ⟨O, ds, rv, hO, ts, hf, q⟩
  unfold maxD at hf
  split at hf
  · obtain ⟨x, y, rfl, t, t2⟩ := tops2 ts
    cases t.int; cases t2.int; cases hf
    exact call_max2 hc pins s σ H _ us Q I r ⟨_, _, rfl, q _ H (resV (.int _))⟩
  · obtain ⟨x, rfl, t⟩ := tops1 ts
    obtain ⟨a, vs, rfl, ha, ra⟩ := t.list
    split at hf
    · rename_i n ns hn
      cases hf
      have ev := ra.ints (intsOf_ok hn)
      subst ev
      refine cr_max hc pins s σ H _ us Q I r ⟨a, n :: ns, rfl, ha, by simp, fun m hm hy => ?_⟩
      obtain ⟨h1, h2⟩ := maxOf_ok (n := n) (ns := ns)
      have e : m = maxOf (n :: ns) := Int.le_antisymm (h2 m hm) (hy _ h1)
      rw [e]; exact q _ H (resV (.int _))
    · cases hf
  · cases hf
theorem cd_min (hc : X.calm = true) : CallR X (.builtin "min") (rDs X.K minD) := by
  intro pins s σ H xs us Q I r ⟨O, ds, rv, hO, ts, hf, q⟩
  unfold minD at hf
  split at hf
  · obtain ⟨x, y, rfl, t, t2⟩ := tops2 ts
    cases t.int; cases t2.int; cases hf
    exact call_min2 hc pins s σ H _ us Q I r ⟨_, _, rfl, q _ H (resV (.int _))⟩
  · obtain ⟨x, rfl, t⟩ := tops1 ts
    obtain ⟨a, vs, rfl, ha, ra⟩ := t.list
    split at hf
    · rename_i n ns hn
      cases hf
      have ev := ra.ints (intsOf_ok hn)
      subst ev
      refine cr_min hc pins s σ H _ us Q I r ⟨a, n :: ns, rfl, ha, by simp, fun m hm hy => ?_⟩
      obtain ⟨h1, h2⟩ := minOf_ok (n := n) (ns := ns)
      have e : m = minOf (n :: ns) := Int.le_antisymm (hy _ h1) (h2 m hm)
      rw [e]; exact q _ H (resV (.int _))
    · cases hf
  · cases hf
theorem cd_sum (hc : X.calm = true) : CallR X (.builtin "sum") (rDs X.K sumD) := by
  intro pins s σ H xs us Q I r ⟨O, ds, rv, hO, ts, hf, q⟩
  unfold sumD at hf
  split at hf
  · rename_i es
    obtain ⟨x, rfl, t⟩ := tops1 ts
    obtain ⟨a, vs, rfl, ha, ra⟩ := t.list
    cases hn : intsOf es with
    | none => rw [hn] at hf; cases hf
    | some ns =>
      rw [hn] at hf; cases hf
      have ev := ra.ints (intsOf_ok hn)
      subst ev
      exact cr_sum hc pins s σ H _ us Q I r ⟨a, ns, rfl, ha, q _ H (resV (.int _))⟩
  · cases hf
theorem cd_all (hc : X.calm = true) : CallR X (.builtin "all") (rDs X.K allD) := by
  intro pins s σ H xs us Q I r ⟨O, ds, rv, hO, ts, hf, q⟩
  unfold allD at hf
  split at hf
  · rename_i es
    obtain ⟨x, rfl, t⟩ := tops1 ts
    obtain ⟨a, vs, rfl, ha, ra⟩ := t.list
    cases hn : boolsOf es with
    | none => rw [hn] at hf; cases hf
    | some ns =>
      rw [hn] at hf; cases hf
      have ev := ra.bools (boolsOf_ok hn)
      subst ev
      exact cr_all hc pins s σ H _ us Q I r ⟨a, ns, rfl, ha, q _ H resBl⟩
  · cases hf
theorem cd_any (hc : X.calm = true) : CallR X (.builtin "any") (rDs X.K anyD) := by
  intro pins s σ H xs us Q I r ⟨O, ds, rv, hO, ts, hf, q⟩
  unfold anyD at hf
  split at hf
  · rename_i es
    obtain ⟨x, rfl, t⟩ := tops1 ts
    obtain ⟨a, vs, rfl, ha, ra⟩ := t.list
    cases hn : boolsOf es with
    | none => rw [hn] at hf; cases hf
    | some ns =>
      rw [hn] at hf; cases hf
      have ev := ra.bools (boolsOf_ok hn)
      subst ev
      exact cr_any hc pins s σ H _ us Q I r ⟨a, ns, rfl, ha, q _ H resBl⟩
  · cases hf
theorem each_of {K : PySem.W.Frag} {H : Hp} {O : AS} : ∀ {ds : List D} {vs : List V} {its : List Value}, Reps K H O ds vs → Vals vs its → PySem.W.EachIs (fun v d => ∃ x, RelV x v ∧ Rep K H O d x) its ds
  | _, _, _, .nil, .nil => .nil
  | _, _, _, .cons a b, .cons c d => .cons ⟨_, c, a⟩ (each_of b d)
theorem each_back {K : PySem.W.Frag} {H : Hp} {O : AS} : ∀ {ds : List D} {its : List Value}, PySem.W.EachIs (fun v d => ∃ x, RelV x v ∧ Rep K H O d x) its ds → ∃ vs, Vals vs its ∧ Reps K H O ds vs
  | _, _, .nil => ⟨[], .nil, .nil⟩
  | _, _, .cons ⟨x, h1, h2⟩ t => by
    obtain ⟨vs, a, b⟩ := each_back t
    exact ⟨x :: vs, .cons h1 a, .cons h2 b⟩
theorem each_reads {pins : List (Addr × Obj)} {s : Shared} {σ : St} {H : Hp} {O : AS} (I : Inv X pins σ H s) : ∀ {ds : List D} {vs : List V} {its : List Value}, Reps X.K H O ds vs → Vals vs its → (∀ d ∈ ds, okE d = true) → PySem.W.EachIs (fun v d => ∃ as, Reads s.heap v (id d) as) its ds
  | _, _, _, .nil, .nil, _ => .nil
  | d :: ds, _, _, .cons a b, .cons c e, h => by
    obtain ⟨_, _, _, p⟩ := okE_ok (h d List.mem_cons_self) (.inl a : Top X.K H O d _)
    exact .cons (Dp.reads I d _ _ p c) (each_reads I b e fun x hx => h x (List.mem_cons_of_mem _ hx))
theorem srt_get {ds : List D} (h : (srtOk ds || oneOk ds) = true) : (∀ d ∈ ds, ∀ e ∈ ds, PySem.W.alike d e = true) ∧ (∀ d ∈ ds, okE d = true) ∧ Sortable1 ds := by
  rw [Bool.or_eq_true] at h
  rcases h with hc | hc
  · unfold srtOk at hc
    simp only [Bool.and_eq_true, Bool.or_eq_true, List.all_eq_true] at hc
    obtain ⟨h1, h2, h3⟩ := hc
    refine ⟨h1, h2, .inl ?_⟩
    rcases h3 with h3 | h3
    · refine .inl fun d hd => ?_
      have := h3 d hd
      cases d <;> first
        | cases this
        | skip
      rename_i l
      cases l with
      | nil => cases this
      | cons x l => exact ⟨x, l, rfl⟩
    · refine .inr fun d hd => ?_
      have := h3 d hd
      cases d <;> first
        | exact (Bool.false_ne_true this).elim
        | exact ⟨(fun e => nomatch e), fun xs e => nomatch e⟩
  · unfold oneOk at hc
    simp only [Bool.and_eq_true, List.all_eq_true, decide_eq_true_eq] at hc
    obtain ⟨h0, h1, h2, h3⟩ := hc
    refine ⟨h1, h2, .inr ⟨h0, fun d hd e => ?_⟩⟩
    have := h3 d hd
    rw [e] at this
    cases this
theorem cd_sorted (hu : X.A.units + 66 < cLine) : CallR X (.builtin "sorted") (rDs X.K sortedD) := by
  intro pins s σ H xs us Q I r ⟨O, ds, rv, hO, ts, hf, q⟩
  unfold sortedD at hf
  split at hf
  · rename_i es
    unfold srtD at hf
    split at hf
    · rename_i hc
      obtain ⟨h1, h2, h3⟩ := srt_get hc
      cases hf
      match xs, ts with
      | [x], ⟨t, _⟩ =>
        obtain ⟨a, vs, rfl, ha, ra⟩ := t.list
        obtain ⟨its, rv, hl, hz⟩ := I.list ha
        rw [Vals.ref1 r]
        have hlen := rv.length
        have hlen2 := ra.length
        refine sorted_data_l (bs := es) (enc := id) hl.isList (each_of ra rv) (each_reads I ra rv h2) (by rw [List.map_id]; exact h1) (by rw [List.map_id]; exact h3) (by omega) (fun b hb => ?_) fun out ho eo => ?_
        · have := h2 b hb
          unfold okE at this
          simp only [Bool.and_eq_true, decide_eq_true_eq] at this
          show X.A.units + 2 + b.depth < cLine
          omega
        · obtain ⟨ws, w1, w2⟩ := each_back eo
          obtain ⟨ep, he'⟩ := PyProof.Rows.sortedAll_at s.heap its out.toArray
          have lw := w1.length
          exact ⟨.ref _, upd H (s.heap.objs.size + 1) (.lst ws), I.laid (t' := s.toks) (fun _ _ => PyProof.Rows.sortedAll_old) (Nat.le_succ _) ⟨by omega, out, ep, w1, he'⟩, rfl, q _ _ (resLst w2 (I.hok.fresh (Nat.le_succ _)))⟩
      | _ :: _ :: _, ⟨_, t⟩ => exact t.elim
    · cases hf
  · rename_i es
    unfold srtD at hf
    split at hf
    · rename_i hc
      obtain ⟨h1, h2, h3⟩ := srt_get hc
      cases hf
      match xs, ts with
      | [x], ⟨t, _⟩ =>
        obtain ⟨a, vs, rfl, ha, ra⟩ := t.tuple
        obtain ⟨its, rv, hl, hz⟩ := I.tuple ha
        rw [Vals.ref1 r]
        have hlen := rv.length
        have hlen2 := ra.length
        refine sorted_data_t (bs := es) (enc := id) hl (each_of ra rv) (each_reads I ra rv h2) (by rw [List.map_id]; exact h1) (by rw [List.map_id]; exact h3) (by omega) (fun b hb => ?_) fun out ho eo => ?_
        · have := h2 b hb
          unfold okE at this
          simp only [Bool.and_eq_true, decide_eq_true_eq] at this
          show X.A.units + 2 + b.depth < cLine
          omega
        · obtain ⟨ws, w1, w2⟩ := each_back eo
          obtain ⟨ep, he'⟩ := PyProof.Rows.sortedAll_at s.heap its out.toArray
          have lw := w1.length
          exact ⟨.ref _, upd H (s.heap.objs.size + 1) (.lst ws), I.laid (t' := s.toks) (fun _ _ => PyProof.Rows.sortedAll_old) (Nat.le_succ _) ⟨by omega, out, ep, w1, he'⟩, rfl, q _ _ (resLst w2 (I.hok.fresh (Nat.le_succ _)))⟩
      | _ :: _ :: _, ⟨_, t⟩ => exact t.elim
    · cases hf
  · cases hf
theorem cd_str : CallR X (.type "str") (rDs X.K strD) := by
  intro pins s σ H xs us Q I rs ⟨O, ds, rv, hO, td, hf, q⟩
  unfold strD at hf
  split at hf
  · split at hf
    · rename_i hc
      cases hf
      obtain ⟨x, rfl, t⟩ := tops1 td
      cases t.int
      exact call_str_int pins s σ H _ us Q I rs ⟨_, rfl, of_decide_eq_true hc, q _ _ (resV (.str _ (strOk_of _)))⟩
    · cases hf
  · cases hf
theorem cd_divmod : CallR X (.builtin "divmod") (rDs X.K divmodD) := by
  intro pins s σ H xs us Q I r ⟨O, ds, rv, hO, ts, hf, q⟩
  unfold divmodD at hf
  split at hf
  · obtain ⟨x, y, rfl, t, t2⟩ := tops2 ts
    split at hf
    · rename_i hc
      simp only [Bool.and_eq_true, decide_eq_true_eq] at hc
      cases t.int; cases t2.int; cases hf
      exact call_divmod pins s σ H _ us Q I r ⟨_, _, rfl, hc, fun p np => q _ _ (resTup hO (.cons (.int _) (.cons (.int _) .nil)) np)⟩
    · cases hf
  · cases hf
theorem cd_tuple : CallR X (.type "tuple") (rDs X.K tupleD) := by
  intro pins s σ H xs us Q I r ⟨O, ds, rv, hO, ts, hf, q⟩
  unfold tupleD at hf
  split at hf
  · obtain ⟨x, rfl, t⟩ := tops1 ts
    obtain ⟨a, vs, rfl, ha, ra⟩ := t.list
    cases hf
    exact call_tuple_of pins s σ H _ us Q I r ⟨a, vs, rfl, .inl ⟨ha, fun l nl => q _ _ (resTup hO ra nl)⟩⟩
  · obtain ⟨x, rfl, t⟩ := tops1 ts
    obtain ⟨a, vs, rfl, ha, ra⟩ := t.tuple
    cases hf
    refine call_tuple_of pins s σ H _ us Q I r ⟨a, vs, rfl, .inr ⟨ha, q _ _ (resV ?_)⟩⟩
    rcases t with t | ⟨_, _, t⟩
    · exact t
    · exact t.elim
  · cases hf
theorem keys_reps {K : PySem.W.Frag} {H : Hp} {O : AS} : ∀ {ds : List (D × D)} {kvs : List (L2.Key × V)}, RepK K H O ds kvs → Reps K H O (ds.map (·.1)) (kvs.map fun kv => kV kv.1)
  | _, _, .nil => .nil
  | _, _, .cons (k := k) hk _ t => by
    refine .cons ?_ (keys_reps t)
    cases k with
    | inl i => exact .int i
    | inr s => exact .str s hk
theorem cd_list (hcalm : X.calm = true) : CallR X (.type "list") (rDs X.K listD) := by
  intro pins s σ H xs us Q I r ⟨O, ds, rv, hO, ts, hf, q⟩
  unfold listD at hf
  split at hf
  · obtain ⟨x, rfl, t⟩ := tops1 ts
    obtain ⟨a, vs, rfl, ha, ra⟩ := t.list
    cases hf
    exact call_list_of pins s σ H _ us Q I r ⟨a, vs, rfl, .inl ha, fun l nl => q _ _ (resLst ra nl)⟩
  · obtain ⟨x, rfl, t⟩ := tops1 ts
    obtain ⟨a, vs, rfl, ha, ra⟩ := t.tuple
    cases hf
    exact call_list_of pins s σ H _ us Q I r ⟨a, vs, rfl, .inr ha, fun l nl => q _ _ (resLst ra nl)⟩
  · obtain ⟨x, rfl, t⟩ := tops1 ts
    obtain ⟨a, kvs, rfl, ha, ra⟩ := t.dict
    cases hf
    exact call_listD hcalm pins s σ H _ us Q I r ⟨a, kvs, rfl, .inl ha, fun l nl => q _ _ (resLst (keys_reps ra) nl)⟩
  · cases hf
end
end Z
namespace Z
open PySem PySem.Spec L2
open PyProof.Rows hiding St

/-! ## evaluator functions of expressions -/
def eC (d : D) : ME := fun ρ => some (.v d, ρ)
/-- a name whose value is kept by somebody: its list is let go -/
def eVar (i : Nat) : ME := fun ρ => match ρ[i]? with
  | some (some (.v d)) => some (.v d, ρ)
  | some (some (.o d)) => some (.v d, ρ.set i (some (.v d)))
  | _ => none
def oSl (i : Nat) : MO := fun ρ => (slot ρ i).bind fun _ => some (.sl i, ρ)
def oTv (f : ME) : MO := fun ρ => (f ρ).bind fun r => some (.tv r.1.d, r.2)
def eOp1 (g : D → Option RV) (fa : MO) : ME := fun ρ => (fa ρ).bind fun r => (r.1.get r.2).bind fun x => (g x).bind fun z => some (z, r.2)
def eOp2 (g : D → D → Option RV) (fa fb : MO) : ME := fun ρ => (fa ρ).bind fun r => (fb r.2).bind fun s => (r.1.get s.2).bind fun x => (s.1.get s.2).bind fun y => (g x y).bind fun z => some (z, s.2)
def osNil : MOs := fun ρ => some ([], ρ)
def osCons (f : MO) (g : MOs) : MOs := fun ρ => (f ρ).bind fun r => (g r.2).bind fun s => some (r.1 :: s.1, s.2)
def eB (g : List D → Option RV) (fs : MOs) : ME := fun ρ => (fs ρ).bind fun r => (getAll r.2 r.1).bind fun xs => (g xs).bind fun z => some (z, r.2)
def tvs : List Op → Option (List D)
  | [] => some []
  | .tv d :: r => (tvs r).bind fun ds => some (d :: ds)
  | .sl _ :: _ => none
def eTup (fs : MOs) : ME := fun ρ => (fs ρ).bind fun r => (tvs r.1).bind fun ds => if szb ds.length then some (.v (.tuple ds), r.2) else none
def eLst (fs : MOs) : ME := fun ρ => (fs ρ).bind fun r => (tvs r.1).bind fun ds => if szb ds.length then some (.o (.list ds), r.2) else none
def truD : D → Option Bool
  | .none => some false
  | .bool b => some b
  | .int i => some (i != 0)
  | .str s => if szb s.length then some ((s.length : Int) != 0) else none
  | .list ds => some (!ds.isEmpty)
  | .tuple ds => some (!ds.isEmpty)
  | .dict ds => some (!ds.isEmpty)
/-- a test by a value's truth -/
def bTru (fo : MO) : MB := fun ρ => (fo ρ).bind fun r => (r.1.get r.2).bind fun x => (truD x).bind fun b => some (b, r.2)
def asB : RV → Option Bool
  | .v (.bool b) => some b
  | _ => none
/-- a test by a comparison -/
def bOp2 (g : D → D → Option RV) (fa fb : MO) : MB := fun ρ => (eOp2 g fa fb ρ).bind fun r => (asB r.1).bind fun b => some (b, r.2)
def bNot (f : MB) : MB := fun ρ => (f ρ).bind fun r => some (!r.1, r.2)
def bAnd (f g : MB) : MB := fun ρ => (f ρ).bind fun r => if r.1 then g r.2 else some (false, r.2)
def bOr (f g : MB) : MB := fun ρ => (f ρ).bind fun r => if r.1 then some (true, r.2) else g r.2
def eAnd (f g : ME) : ME := fun ρ => (f ρ).bind fun r => (asB r.1).bind fun b => if b then g r.2 else some (.v (.bool false), r.2)
def eOr (f g : ME) : ME := fun ρ => (f ρ).bind fun r => (asB r.1).bind fun b => if b then some (.v (.bool true), r.2) else g r.2
def eNot (f : ME) : ME := fun ρ => (f ρ).bind fun r => (asB r.1).bind fun b => some (.v (.bool (!b)), r.2)
def eIf (t : MB) (f g : ME) : ME := fun ρ => (t ρ).bind fun r => if r.1 then f r.2 else g r.2
def eChain (g g' : D → D → Option RV) (fa fb fc : MO) : ME := fun ρ => (fa ρ).bind fun r => (fb r.2).bind fun s => (r.1.get s.2).bind fun x => (s.1.get s.2).bind fun y => (g x y).bind fun z => (asB z).bind fun b =>
  if b then (fc s.2).bind fun t => (s.1.get t.2).bind fun y' => (t.1.get t.2).bind fun w => (g' y' w).bind fun u => some (u, t.2) else some (.v (.bool false), s.2)
def bChain (g g' : D → D → Option RV) (fa fb fc : MO) : MB := fun ρ => (eChain g g' fa fb fc ρ).bind fun r => (asB r.1).bind fun b => some (b, r.2)
def cut (xs : List D) (lo hi : Option Int) : List D := (xs.drop (HT.sIx xs.length 0 lo)).take (HT.sIx xs.length xs.length hi - HT.sIx xs.length 0 lo)
def slD : D → Option Int → Option Int → Option RV
  | .list xs, lo, hi => some (.o (.list (cut xs lo hi)))
  | .tuple xs, lo, hi => some (.v (.tuple (cut xs lo hi)))
  | .str z, lo, hi => if szb z.length then some (.v (.str (cutS z lo hi))) else none
  | _, _, _ => none
abbrev MI := Rho → Option (Option Int × Rho)
def iNo : MI := fun ρ => some (none, ρ)
def asI : RV → Option Int
  | .v (.int i) => some i
  | _ => none
def iSome (f : ME) : MI := fun ρ => (f ρ).bind fun r => (asI r.1).bind fun i => some (some i, r.2)
def eSl (fx : MO) (fl fh : MI) : ME := fun ρ => (fx ρ).bind fun r => (fl r.2).bind fun l => (fh l.2).bind fun h => (r.1.get h.2).bind fun x => (slD x l.1 h.1).bind fun z => some (z, h.2)

theorem bindS {α β : Type} {x : Option α} {f : α → Option β} {b : β} (h : x.bind f = some b) : ∃ a, x = some a ∧ f a = some b := Option.bind_eq_some_iff.mp h

section
variable {X : Cx} {c : Cn} {E : AS} {ρ ρ1 ρ2 ρ' : Rho} {σ : L2.St} {H H1 H2 H' : Hp} {d : D} {z : V} {rv : RV}
theorem oe_there (r : R c E ρ σ H) : ∀ b, OE ρ σ E b → ∃ o, H b = some o := fun b h => h.elim (r.eal b) fun q => r.own_there q
theorem ResB.post (s : Stp ρ σ H ρ2 σ H2) (r : R c E ρ2 σ H2) (h : ResB c.K H2 (OE ρ2 σ E) rv H' z) : PostE c E ρ σ H ρ2 H' rv z := by
  obtain ⟨g, h⟩ := h
  cases rv with
  | v d => exact ⟨s.trans g.stp, r.grow g, h⟩
  | o d =>
    obtain ⟨a, rfl, n, o⟩ := h
    refine ⟨a, rfl, s.trans g.stp, ?_, ?_, by rw [OE_add]; exact o⟩
    · cases q : H a with
      | none => rfl
      | some u =>
        obtain ⟨w, hw⟩ := s.all a u q
        rw [n] at hw; cases hw
    · obtain ⟨u, hu⟩ := o.there
      exact r.add n g hu
theorem PostE.v (h : PostE c E ρ σ H ρ' H' (.v d) z) : PostV c E ρ σ H ρ' H' d z := h
theorem asB_ok {b : Bool} (h : asB rv = some b) : rv = .v (.bool b) := by
  unfold asB at h
  split at h <;> first | (cases h; rfl) | cases h
theorem asI_ok {i : Int} (h : asI rv = some i) : rv = .v (.int i) := by
  unfold asI at h
  split at h <;> first | (cases h; rfl) | cases h
theorem tvs_ok (r : R c E ρ' σ H') : ∀ {ps : List Op} {ds : List D} {zs : List V}, tvs ps = some ds → OpsAt c E ρ' σ H' ps zs → Reps c.K H' (OE ρ' σ E) ds zs
  | [], ds, [], h, _ => by cases h; exact .nil
  | [], _, _ :: _, _, h => h.elim
  | .tv d :: ps, ds, [], h, o => o.elim
  | .tv d :: ps, ds, z :: zs, h, o => by
    obtain ⟨es, e1, e2⟩ := bindS h
    cases e2
    exact .cons o.1 (tvs_ok r e1 o.2)
  | .sl _ :: _, _, _, h, _ => by cases h
end

section
variable {X : Cx} {a b e : Expr} {es : List Expr} {fa fb fc : MO} {fs : MOs} {f g h : ME} {bf bg : MB} {pos : Pos}
theorem zpo_slot {i : Nat} (h : PE X e (tVar i)) : PE X e (tOpd X (oSl i)) := by
  refine ⟨fun pins s σ H Q I hq => h.run pins s σ H Q I ?_⟩
  obtain ⟨c, E, ρ, p, ρ', hK, hR, hf, q⟩ := hq
  obtain ⟨d, h1, h2⟩ := bindS hf
  cases h2
  have hz : ∃ z, σ[i]? = some (some z) := by
    unfold slot at h1
    split at h1
    · rename_i rv hr
      cases rv with
      | v d => obtain ⟨v, h3, _⟩ := hR.val i d hr; exact ⟨v, h3⟩
      | o d => obtain ⟨v, h3, _⟩ := hR.own i d hr; exact ⟨_, h3⟩
    · cases h1
  obtain ⟨z, hz⟩ := hz
  exact ⟨z, hz, q z H ⟨Stp.rfl, hR, hz⟩⟩
theorem zpo_tv (h : PE X e (tE X f)) : PE X e (tOpd X (oTv f)) := by
  refine ⟨fun pins s σ H Q I hq => h.run pins s σ H Q I ?_⟩
  obtain ⟨c, E, ρ, p, ρ', hK, hR, hf, q⟩ := hq
  obtain ⟨⟨rv, ρ1⟩, h1, h2⟩ := bindS hf
  cases h2
  refine ⟨c, E, ρ, rv, ρ1, hK, hR, h1, fun z H' P => q z H' ?_⟩
  obtain ⟨s1, r1, p1⟩ := P.pv hR
  exact ⟨s1, r1, p1⟩
theorem zpe_var {i : Nat} (h : PE X e (tVar i)) : PE X e (tE X (eVar i)) := by
  refine ⟨fun pins s σ H Q I hq => h.run pins s σ H Q I ?_⟩
  obtain ⟨c, E, ρ, p, ρ', hK, hR, hf, q⟩ := hq
  unfold eVar at hf
  split at hf
  · rename_i d hr
    cases hf
    obtain ⟨v, h1, h2⟩ := hR.val i d hr
    exact ⟨v, h1, q v H ⟨Stp.rfl, hR, h2⟩⟩
  · rename_i d hr
    cases hf
    obtain ⟨h1, h2, v, h3, h4⟩ := hR.freeze hr
    exact ⟨v, h3, q v H ⟨h2, h1, h4⟩⟩
  · cases hf
theorem zpe_const {v : V} {d : D} (h : PE X e (tC v)) (r : ∀ H O, Rep X.K H O d v) : PE X e (tE X (eC d)) := by
  refine ⟨fun pins s σ H Q I hq => h.run pins s σ H Q I ?_⟩
  obtain ⟨c, E, ρ, p, ρ', hK, hR, hf, q⟩ := hq
  cases hf
  exact q v H ⟨Stp.rfl, hR, by rw [hK]; exact r _ _⟩
theorem zpa_nil : PA X [] (tOps X osNil) := by
  refine ⟨fun pos pins s σ H Q I hq => pa_nil.run pos pins s σ H Q I ?_⟩
  obtain ⟨c, E, ρ, p, ρ', hK, hR, hf, q⟩ := hq
  cases hf
  exact q [] H ⟨Stp.rfl, hR, True.intro⟩
theorem zpa_cons (ha : PE X e (tOpd X fa)) (hr : PA X es (tOps X fs)) (hs : starEach (e :: es) X.env = (false, eval e X.env) :: starEach es X.env) : PA X (e :: es) (tOps X (osCons fa fs)) := by
  refine ⟨fun pos pins s σ H Q I hq => (pa_cons ha hr hs).run pos pins s σ H Q I ?_⟩
  obtain ⟨c, E, ρ, p, ρ', hK, hR, hf, q⟩ := hq
  obtain ⟨⟨p1, ρ1⟩, h1, hf⟩ := bindS hf
  obtain ⟨⟨p2, ρ2⟩, h2, hf⟩ := bindS hf
  cases hf
  refine ⟨c, E, ρ, p1, ρ1, hK, hR, h1, fun x H1 P1 => ⟨c, E, ρ1, p2, ρ2, hK, P1.2.1, h2, fun xs H2 P2 => q _ H2 ⟨P1.1.trans P2.1, P2.2.1, ?_, P2.2.2⟩⟩⟩
  obtain ⟨_, _, P3⟩ := P1
  cases p1 with
  | tv d => exact Rep.mono P2.1.keeps P3
  | sl i => exact P3
theorem op1_read {g : D → Option RV} {σ : L2.St} {H : Hp} {Q : VK} (hq : tE X (eOp1 g fa) σ H Q) : tUn (rD1 X.K g) (tOpd X fa) σ H Q := by
  obtain ⟨c, E, ρ, rv, ρ', hK, hR, hf, q⟩ := hq
  obtain ⟨⟨p1, ρ1⟩, h1, hf⟩ := bindS hf
  obtain ⟨x, h2, hf⟩ := bindS hf
  obtain ⟨y, h3, hf⟩ := bindS hf
  cases hf
  refine ⟨c, E, ρ, p1, ρ1, hK, hR, h1, fun z H1 P1 => ⟨OE ρ1 σ E, x, rv, oe_there P1.2.1, ?_, h3, fun w H' rb => q w H' (ResB.post P1.1 P1.2.1 (by rw [hK]; exact rb))⟩⟩
  rw [← hK]; exact P1.top Stp.rfl P1.2.1 h2
theorem op2_read {g : D → D → Option RV} {σ : L2.St} {H : Hp} {Q : VK} (hq : tE X (eOp2 g fa fb) σ H Q) : tOp (rD2 X.K g) (tOpd X fa) (tOpd X fb) σ H Q := by
  obtain ⟨c, E, ρ, rv, ρ', hK, hR, hf, q⟩ := hq
  obtain ⟨⟨p1, ρ1⟩, h1, hf⟩ := bindS hf
  obtain ⟨⟨p2, ρ2⟩, h2, hf⟩ := bindS hf
  obtain ⟨x, h3, hf⟩ := bindS hf
  obtain ⟨y, h4, hf⟩ := bindS hf
  obtain ⟨w, h5, hf⟩ := bindS hf
  cases hf
  refine ⟨c, E, ρ, p1, ρ1, hK, hR, h1, fun z H1 P1 => ⟨c, E, ρ1, p2, ρ2, hK, P1.2.1, h2, fun z2 H2 P2 => ⟨OE ρ2 σ E, x, y, rv, oe_there P2.2.1, ?_, ?_, h5, fun w H' rb => q w H' (ResB.post (P1.1.trans P2.1) P2.2.1 (by rw [hK]; exact rb))⟩⟩⟩
  · rw [← hK]; exact P1.top P2.1 P2.2.1 h3
  · rw [← hK]; exact P2.top Stp.rfl P2.2.1 h4
theorem zpe_un {op : UnaryOp} {g : D → Option RV} (ho : UnR X (unaryOp op) (rD1 X.K g)) (ha : PE X a (tOpd X fa)) : PE X (.UnaryOp op a pos) (tE X (eOp1 g fa)) :=
  ⟨fun pins s σ H Q I hq => (pe_un ho ha).run pins s σ H Q I (op1_read hq)⟩
theorem zpe_bin {op : Operator} {g : D → D → Option RV} (ho : OpR X (binaryOp op) (rD2 X.K g)) (ha : PE X a (tOpd X fa)) (hb : PE X b (tOpd X fb)) : PE X (.BinOp a op b pos) (tE X (eOp2 g fa fb)) :=
  ⟨fun pins s σ H Q I hq => (pe_op ho ha hb).run pins s σ H Q I (op2_read hq)⟩
theorem zpe_cmp {op : CmpOp} {g : D → D → Option RV} (ho : OpR X (compareOp op) (rD2 X.K g)) (ha : PE X a (tOpd X fa)) (hb : PE X b (tOpd X fb)) (hm : behindInMarks op b = false) : PE X (.Compare a [op] [b] pos) (tE X (eOp2 g fa fb)) :=
  ⟨fun pins s σ H Q I hq => (pe_cmpR ho ha hb hm).run pins s σ H Q I (op2_read hq)⟩
theorem zpe_ix (hu : X.A.units + 66 < cLine) (ha : PE X a (tOpd X fa)) (hb : PE X b (tOpd X fb)) (hs : PlainIx b) : PE X (.Subscript a b pos) (tE X (eOp2 ixD fa fb)) :=
  ⟨fun pins s σ H Q I hq => (pe_ix (ixd hu) ha hb hs).run pins s σ H Q I (op2_read hq)⟩
theorem bop2_read {g : D → D → Option RV} {σ : L2.St} {H : Hp} {Q : Bool → Hp → Prop} (hq : tT X (bOp2 g fa fb) σ H Q) : tTest (tOp (rD2 X.K g) (tOpd X fa) (tOpd X fb)) σ H Q := by
  obtain ⟨c, E, ρ, k, ρ', hK, hR, hf, q⟩ := hq
  obtain ⟨⟨rv, ρ1⟩, h1, hf⟩ := bindS hf
  obtain ⟨k', h2, hf⟩ := bindS hf
  cases hf
  refine op2_read ⟨c, E, ρ, rv, ρ1, hK, hR, h1, fun z H' P => ?_⟩
  have e : rv = .v (.bool k) := asB_ok h2
  subst e
  obtain ⟨s1, r1, p1⟩ := P.v
  cases p1
  exact ⟨k, rfl, q H' ⟨s1, r1⟩⟩
theorem zpt_cmp {op : CmpOp} {g : D → D → Option RV} (ho : OpR X (compareOp op) (rD2 X.K g)) (ha : PE X a (tOpd X fa)) (hb : PE X b (tOpd X fb)) (hm : behindInMarks op b = false) : PT X (.Compare a [op] [b] pos) (tT X (bOp2 g fa fb)) :=
  ⟨fun pins s σ H Q I hq => (pt_cmpR ho ha hb hm).run pins s σ H Q I (bop2_read hq)⟩
theorem tru_top {K : PySem.W.Frag} {H : Hp} {O : AS} {d : D} {x : V} {k : Bool} (t : Top K H O d x) (h : truD d = some k) : TruV K x H k := by
  unfold truD at h
  have emp : ∀ {α β : Type} {xs : List α} {ys : List β}, xs.length = ys.length → (!xs.isEmpty) = !ys.isEmpty := fun {α β xs ys} h => by
    cases xs <;> cases ys <;> simp_all
  split at h
  · cases t.non; cases h; rfl
  · cases t.bl; cases h; rfl
  · cases t.int; cases h; rfl
  · split at h
    · rename_i hz
      cases t.str; cases h; exact ⟨szb_ok hz, rfl⟩
    · cases h
  · obtain ⟨a, vs, rfl, ha, ra⟩ := t.list
    cases h; exact .inl ⟨vs, ha, emp ra.length⟩
  · obtain ⟨a, vs, rfl, ha, ra⟩ := t.tuple
    cases h; exact .inr (.inl ⟨vs, ha, emp ra.length⟩)
  · obtain ⟨a, vs, rfl, ha, ra⟩ := t.dict
    cases h; exact .inr (.inr ⟨vs, ha, emp ra.length⟩)
theorem zpt_tru (ha : PE X a (tOpd X fa)) (he : ∀ whole, isTrue a X.env whole = (do let v ← whole; standAt a.pos; holding [v] (truthy v))) : PT X a (tT X (bTru fa)) := by
  refine ⟨fun pins s σ H Q I hq => (pt_truth ha he).run pins s σ H Q I ?_⟩
  obtain ⟨c, E, ρ, k, ρ', hK, hR, hf, q⟩ := hq
  obtain ⟨⟨p1, ρ1⟩, h1, hf⟩ := bindS hf
  obtain ⟨x, h2, hf⟩ := bindS hf
  obtain ⟨k', h3, hf⟩ := bindS hf
  cases hf
  refine ⟨c, E, ρ, p1, ρ1, hK, hR, h1, fun z H1 P1 => ⟨k, ?_, q H1 ⟨P1.1, P1.2.1⟩⟩⟩
  have t := P1.top Stp.rfl P1.2.1 h2
  rw [hK] at t
  exact tru_top t h3
theorem zpt_not (ha : PT X a (tT X bf)) : PT X (.UnaryOp .Not a pos) (tT X (bNot bf)) := by
  refine ⟨fun pins s σ H Q I hq => (pt_not ha).run pins s σ H Q I ?_⟩
  obtain ⟨c, E, ρ, k, ρ', hK, hR, hf, q⟩ := hq
  obtain ⟨⟨k1, ρ1⟩, h1, hf⟩ := bindS hf
  cases hf
  exact ⟨c, E, ρ, k1, ρ1, hK, hR, h1, fun H1 P1 => q H1 P1⟩
theorem zpw_and (ha : PT X a (tT X bf)) (hb : PW X (.BoolOp .And (b :: es) pos) (tT X bg)) : PW X (.BoolOp .And (a :: b :: es) pos) (tT X (bAnd bf bg)) := by
  refine ⟨fun whole pins s σ H Q I hq => (pw_and ha hb).run whole pins s σ H Q I ?_⟩
  obtain ⟨c, E, ρ, k, ρ', hK, hR, hf, q⟩ := hq
  obtain ⟨⟨k1, ρ1⟩, h1, hf⟩ := bindS hf
  refine ⟨c, E, ρ, k1, ρ1, hK, hR, h1, fun H1 P1 => ?_⟩
  cases k1 with
  | true => exact iteT ⟨c, E, ρ1, k, ρ', hK, P1.2, hf, fun H2 P2 => q H2 ⟨P1.1.trans P2.1, P2.2⟩⟩
  | false =>
    cases hf
    exact iteF (q H1 P1)
theorem zpw_or (ha : PT X a (tT X bf)) (hb : PW X (.BoolOp .Or (b :: es) pos) (tT X bg)) : PW X (.BoolOp .Or (a :: b :: es) pos) (tT X (bOr bf bg)) := by
  refine ⟨fun whole pins s σ H Q I hq => (pw_or ha hb).run whole pins s σ H Q I ?_⟩
  obtain ⟨c, E, ρ, k, ρ', hK, hR, hf, q⟩ := hq
  obtain ⟨⟨k1, ρ1⟩, h1, hf⟩ := bindS hf
  refine ⟨c, E, ρ, k1, ρ1, hK, hR, h1, fun H1 P1 => ?_⟩
  cases k1 with
  | false => exact iteF ⟨c, E, ρ1, k, ρ', hK, P1.2, hf, fun H2 P2 => q H2 ⟨P1.1.trans P2.1, P2.2⟩⟩
  | true =>
    cases hf
    exact iteT (q H1 P1)
theorem bl_read {k : Bool} {ρ ρ1 : Rho} {E : AS} {c : Cn} {σ : L2.St} {H H' : Hp} {z : V} {rv : RV} (h : asB rv = some k) (P : PostE c E ρ σ H ρ1 H' rv z) : z = .bl k ∧ Stp ρ σ H ρ1 σ H' ∧ R c E ρ1 σ H' := by
  have e := asB_ok h
  subst e
  obtain ⟨s1, r1, p1⟩ := P.v
  cases p1
  exact ⟨rfl, s1, r1⟩
theorem PostE.from {ρ ρ1 ρ2 : Rho} {E : AS} {c : Cn} {σ : L2.St} {H H1 H2 : Hp} {z : V} {rv : RV} (s : Stp ρ σ H ρ1 σ H1) (h : PostE c E ρ1 σ H1 ρ2 H2 rv z) : PostE c E ρ σ H ρ2 H2 rv z := by
  cases rv with
  | v d => exact ⟨s.trans h.1, h.2⟩
  | o d =>
    obtain ⟨a, rfl, s2, n, r⟩ := h
    refine ⟨a, rfl, s.trans s2, ?_, r⟩
    cases q : H a with
    | none => rfl
    | some u =>
      obtain ⟨w, hw⟩ := s.all a u q
      rw [n] at hw; cases hw
theorem zpe_and (ha : PE X a (tE X f)) (hb : PE X (.BoolOp .And (b :: es) pos) (tE X g)) : PE X (.BoolOp .And (a :: b :: es) pos) (tE X (eAnd f g)) := by
  refine ⟨fun pins s σ H Q I hq => (pe_and ha hb).run pins s σ H Q I ?_⟩
  obtain ⟨c, E, ρ, rv, ρ', hK, hR, hf, q⟩ := hq
  obtain ⟨⟨r1, ρ1⟩, h1, hf⟩ := bindS hf
  obtain ⟨k, h2, hf⟩ := bindS hf
  refine ⟨c, E, ρ, r1, ρ1, hK, hR, h1, fun z H1 P1 => ?_⟩
  obtain ⟨rfl, s1, R1⟩ := bl_read h2 P1
  refine ⟨k, rfl, ?_⟩
  cases k with
  | true => exact iteT ⟨c, E, ρ1, rv, ρ', hK, R1, hf, fun z2 H2 P2 => q z2 H2 (P2.from s1)⟩
  | false =>
    cases hf
    exact iteF (q _ H1 ⟨s1, R1, .bl false⟩)
theorem zpe_or (ha : PE X a (tE X f)) (hb : PE X (.BoolOp .Or (b :: es) pos) (tE X g)) : PE X (.BoolOp .Or (a :: b :: es) pos) (tE X (eOr f g)) := by
  refine ⟨fun pins s σ H Q I hq => (pe_or ha hb).run pins s σ H Q I ?_⟩
  obtain ⟨c, E, ρ, rv, ρ', hK, hR, hf, q⟩ := hq
  obtain ⟨⟨r1, ρ1⟩, h1, hf⟩ := bindS hf
  obtain ⟨k, h2, hf⟩ := bindS hf
  refine ⟨c, E, ρ, r1, ρ1, hK, hR, h1, fun z H1 P1 => ?_⟩
  obtain ⟨rfl, s1, R1⟩ := bl_read h2 P1
  refine ⟨k, rfl, ?_⟩
  cases k with
  | false => exact iteF ⟨c, E, ρ1, rv, ρ', hK, R1, hf, fun z2 H2 P2 => q z2 H2 (P2.from s1)⟩
  | true =>
    cases hf
    exact iteT (q _ H1 ⟨s1, R1, .bl true⟩)
theorem zpe_not (ha : PE X a (tE X f)) : PE X (.UnaryOp .Not a pos) (tE X (eNot f)) := by
  refine ⟨fun pins s σ H Q I hq => (pe_not ha).run pins s σ H Q I ?_⟩
  obtain ⟨c, E, ρ, rv, ρ', hK, hR, hf, q⟩ := hq
  obtain ⟨⟨r1, ρ1⟩, h1, hf⟩ := bindS hf
  obtain ⟨k, h2, hf⟩ := bindS hf
  refine ⟨c, E, ρ, r1, ρ1, hK, hR, h1, fun z H1 P1 => ?_⟩
  obtain ⟨rfl, s1, R1⟩ := bl_read h2 P1
  cases hf
  exact ⟨k, rfl, q _ H1 ⟨s1, R1, .bl _⟩⟩
theorem zpe_if {t : Expr} (ht : PT X t (tT X bf)) (ha : PE X a (tE X f)) (hb : PE X b (tE X g)) : PE X (.IfExp t a b pos) (tE X (eIf bf f g)) := by
  refine ⟨fun pins s σ H Q I hq => (pe_ifExp ht ha hb).run pins s σ H Q I ?_⟩
  obtain ⟨c, E, ρ, rv, ρ', hK, hR, hf, q⟩ := hq
  obtain ⟨⟨k, ρ1⟩, h1, hf⟩ := bindS hf
  refine ⟨c, E, ρ, k, ρ1, hK, hR, h1, fun H1 P1 => ?_⟩
  cases k with
  | true => exact iteT ⟨c, E, ρ1, rv, ρ', hK, P1.2, hf, fun z2 H2 P2 => q z2 H2 (P2.from P1.1)⟩
  | false => exact iteF ⟨c, E, ρ1, rv, ρ', hK, P1.2, hf, fun z2 H2 P2 => q z2 H2 (P2.from P1.1)⟩
theorem chain_read {c' : Expr} {g g' : D → D → Option RV} {σ : L2.St} {H : Hp} {Q : VK} (hq : tE X (eChain g g' fa fb fc) σ H Q) : tChain (rD2 X.K g) (rD2 X.K g') (tOpd X fa) (tOpd X fb) (tOpd X fc) σ H Q := by
  obtain ⟨c, E, ρ, rv, ρ', hK, hR, hf, q⟩ := hq
  obtain ⟨⟨p1, ρ1⟩, h1, hf⟩ := bindS hf
  obtain ⟨⟨p2, ρ2⟩, h2, hf⟩ := bindS hf
  obtain ⟨x, h3, hf⟩ := bindS hf
  obtain ⟨y, h4, hf⟩ := bindS hf
  obtain ⟨w, h5, hf⟩ := bindS hf
  obtain ⟨k, h6, hk⟩ := bindS hf
  refine ⟨c, E, ρ, p1, ρ1, hK, hR, h1, fun z H1 P1 => ⟨c, E, ρ1, p2, ρ2, hK, P1.2.1, h2, fun z2 H2 P2 => ⟨OE ρ2 σ E, x, y, w, oe_there P2.2.1, ?_, ?_, h5, fun z3 H3 rb => ?_⟩⟩⟩
  · rw [← hK]; exact P1.top P2.1 P2.2.1 h3
  · rw [← hK]; exact P2.top Stp.rfl P2.2.1 h4
  · have P3 := ResB.post (P1.1.trans P2.1) P2.2.1 (by rw [hK]; exact rb)
    obtain ⟨rfl, s3, R3⟩ := bl_read h6 P3
    have e := asB_ok h6
    subst e
    have g3 : Stp ρ2 σ H2 ρ2 σ H3 := (show Grow H2 H3 from rb.1).stp
    refine ⟨k, rfl, ?_⟩
    cases k with
    | false =>
      rw [if_neg Bool.false_ne_true] at hk
      cases hk
      exact iteF (q _ H3 ⟨s3, R3, .bl false⟩)
    | true =>
      rw [if_pos rfl] at hk
      obtain ⟨⟨p4, ρ4⟩, h7, hk⟩ := bindS hk
      obtain ⟨y', h8, hk⟩ := bindS hk
      obtain ⟨w', h9, hk⟩ := bindS hk
      obtain ⟨u, h10, hk⟩ := bindS hk
      cases hk
      refine iteT ⟨c, E, ρ2, p4, ρ4, hK, R3, h7, fun z4 H4 P4 => ⟨OE ρ4 σ E, y', w', rv, oe_there P4.2.1, ?_, ?_, h10, fun z5 H5 rb5 => q z5 H5 (ResB.post (s3.trans P4.1) P4.2.1 (by rw [hK]; exact rb5))⟩⟩
      · rw [← hK]; exact P2.top (g3.trans P4.1) P4.2.1 h8
      · rw [← hK]; exact P4.top Stp.rfl P4.2.1 h9
theorem zpe_chain {c' : Expr} {op op' : CmpOp} {g g' : D → D → Option RV} (ho : OpR X (compareOp op) (rD2 X.K g)) (ho' : OpR X (compareOp op') (rD2 X.K g')) (ha : PE X a (tOpd X fa)) (hb : PE X b (tOpd X fb)) (hc : PE X c' (tOpd X fc))
    (hm : lastMarks [op, op'] [b, c'] = false) : PE X (.Compare a [op, op'] [b, c'] pos) (tE X (eChain g g' fa fb fc)) :=
  ⟨fun pins s σ H Q I hq => (pe_chain ho ho' ha hb hc hm).run pins s σ H Q I (chain_read (c' := c') hq)⟩
theorem zpt_chain {c' : Expr} {op op' : CmpOp} {g g' : D → D → Option RV} (ho : OpR X (compareOp op) (rD2 X.K g)) (ho' : OpR X (compareOp op') (rD2 X.K g')) (ha : PE X a (tOpd X fa)) (hb : PE X b (tOpd X fb)) (hc : PE X c' (tOpd X fc))
    (hm : lastMarks [op, op'] [b, c'] = false) : PT X (.Compare a [op, op'] [b, c'] pos) (tT X (bChain g g' fa fb fc)) := by
  refine ⟨fun pins s σ H Q I hq => (pt_chain ho ho' ha hb hc hm).run pins s σ H Q I ?_⟩
  obtain ⟨c, E, ρ, k, ρ', hK, hR, hf, q⟩ := hq
  obtain ⟨⟨rv, ρ1⟩, h1, hf⟩ := bindS hf
  obtain ⟨k', h2, hf⟩ := bindS hf
  cases hf
  refine chain_read (c' := c') ⟨c, E, ρ, rv, ρ1, hK, hR, h1, fun z H' P => ?_⟩
  obtain ⟨rfl, s1, R1⟩ := bl_read h2 P
  exact ⟨k, rfl, q H' ⟨s1, R1⟩⟩
theorem tb_read {gb : List D → Option RV} {σ : L2.St} {H : Hp} {Q : VK} (hq : tE X (eB gb fs) σ H Q) : tCB (rDs X.K gb) (tOps X fs) σ H Q := by
  obtain ⟨c, E, ρ, rv, ρ', hK, hR, hf, q⟩ := hq
  obtain ⟨⟨ps, ρ1⟩, h1, hf⟩ := bindS hf
  obtain ⟨xs, h2, hf⟩ := bindS hf
  obtain ⟨w, h3, hf⟩ := bindS hf
  cases hf
  refine ⟨c, E, ρ, ps, ρ1, hK, hR, h1, fun zs H1 P1 => ⟨OE ρ1 σ E, xs, rv, oe_there P1.2.1, ?_, h3, fun z H' rb => q z H' (ResB.post P1.1 P1.2.1 (by rw [hK]; exact rb))⟩⟩
  rw [← hK]; exact P1.2.2.tops P1.2.1 h2
theorem zpe_tup {x1 : Nat} (ha : PA X es (tOps X fs)) : PE X (.Tuple es x1 pos) (tE X (eTup fs)) := by
  refine ⟨fun pins s σ H Q I hq => (pe_tup ha).run pins s σ H Q I ?_⟩
  obtain ⟨c, E, ρ, rv, ρ', hK, hR, hf, q⟩ := hq
  obtain ⟨⟨ps, ρ1⟩, h1, hf⟩ := bindS hf
  obtain ⟨ds, h2, hf⟩ := bindS hf
  split at hf
  · rename_i hz
    cases hf
    refine ⟨c, E, ρ, ps, ρ1, hK, hR, h1, fun zs H1 P1 => ?_⟩
    have r := tvs_ok P1.2.1 h2 P1.2.2
    exact ⟨by rw [← r.length]; exact szb_ok hz, fun p np => q _ _ (ResB.post P1.1 P1.2.1 (resTup (oe_there P1.2.1) r np))⟩
  · cases hf
theorem zpe_lst (ha : PA X es (tOps X fs)) : PE X (.List es pos) (tE X (eLst fs)) := by
  refine ⟨fun pins s σ H Q I hq => (pe_lst ha).run pins s σ H Q I ?_⟩
  obtain ⟨c, E, ρ, rv, ρ', hK, hR, hf, q⟩ := hq
  obtain ⟨⟨ps, ρ1⟩, h1, hf⟩ := bindS hf
  obtain ⟨ds, h2, hf⟩ := bindS hf
  split at hf
  · rename_i hz
    cases hf
    refine ⟨c, E, ρ, ps, ρ1, hK, hR, h1, fun zs H1 P1 => ?_⟩
    have r := tvs_ok P1.2.1 h2 P1.2.2
    exact ⟨by rw [← r.length]; exact szb_ok hz, fun p np => q _ _ (ResB.post P1.1 P1.2.1 (resLst r np))⟩
  · cases hf
/-! slices -/
def tI (X : Cx) (f : MI) : L2.TO := fun σ H Q => ∃ c E ρ o ρ', c.K = X.K ∧ R c E ρ σ H ∧ f ρ = some (o, ρ') ∧ ∀ H', Stp ρ σ H ρ' σ H' ∧ R c E ρ' σ H' → Q o H'
theorem zpi_no : PO X none (tI X iNo) := by
  refine ⟨fun pins s σ H Q I hq => po_none.run pins s σ H Q I ?_⟩
  obtain ⟨c, E, ρ, o, ρ', hK, hR, hf, q⟩ := hq
  cases hf
  exact q H ⟨Stp.rfl, hR⟩
theorem zpi_some (ha : PE X a (tE X f)) : PO X (some a) (tI X (iSome f)) := by
  refine ⟨fun pins s σ H Q I hq => (po_some ha).run pins s σ H Q I ?_⟩
  obtain ⟨c, E, ρ, o, ρ', hK, hR, hf, q⟩ := hq
  obtain ⟨⟨rv, ρ1⟩, h1, hf⟩ := bindS hf
  obtain ⟨i, h2, hf⟩ := bindS hf
  cases hf
  have e := asI_ok h2
  subst e
  refine ⟨c, E, ρ, _, ρ1, hK, hR, h1, fun z H1 P1 => ?_⟩
  obtain ⟨s1, r1, p1⟩ := P1.v
  cases p1
  exact ⟨i, rfl, q H1 ⟨s1, r1⟩⟩
theorem cut_reps {K : PySem.W.Frag} {H : Hp} {O : AS} {ds : List D} {vs : List V} {lo hi : Option Int} (r : Reps K H O ds vs) : Reps K H O (cut ds lo hi) (cutV vs lo hi) := by
  unfold cut cutV
  rw [r.length]
  exact (r.drop _).take _
theorem strOk_cut {z : Str} {lo hi : Option Int} (h : PyData.strOk z = true) : PyData.strOk (cutS z lo hi) = true := by
  rw [strOk_iff] at *
  intro c hc
  have e : (cutS z lo hi).cps.toList = (z.cps.toList.drop (HT.sIx z.length 0 lo)).take (HT.sIx z.length z.length hi - HT.sIx z.length 0 lo) := by unfold cutS; rw [List.toList_toArray]
  rw [e] at hc
  exact h c (List.mem_of_mem_drop (List.mem_of_mem_take hc))
def rSlD (K : PySem.W.Frag) : V → Option Int → Option Int → Hp → VK → Prop := fun x lo hi H Q => ∃ (O : AS) (d : D) (rv : RV), (∀ b, O b → ∃ o, H b = some o) ∧ Top K H O d x ∧ slD d lo hi = some rv ∧ ∀ z H', ResB K H O rv H' z → Q z H'
theorem cut_whole {K : PySem.W.Frag} {H : Hp} {O : AS} {xs : List D} {vs : List V} {lo hi : Option Int} {a : Addr} (t : Top K H O (.tuple xs) (.ref a)) (ra : Reps K H O xs vs)
    (hw : HT.sIx vs.length 0 lo = 0 ∧ HT.sIx vs.length vs.length hi = vs.length) : Rep K H O (.tuple (cut xs lo hi)) (.ref a) := by
  have e : cut xs lo hi = xs := by
    unfold cut
    rw [ra.length, hw.1, hw.2, List.drop_zero, Nat.sub_zero, ← ra.length, List.take_length]
  rw [e]
  rcases t with t | ⟨_, _, t⟩
  · exact t
  · exact t.elim
theorem sld : SlR X (rSlD X.K) := by
  intro pins s σ H x v vl vu lo hi sl Q I rx hs pl pu ⟨O, d, rv, hO, t, hf, q⟩
  unfold slD at hf
  split at hf
  · obtain ⟨a, vs, rfl, ha, ra⟩ := t.list
    cases hf
    exact sl_list pins s σ H _ v vl vu _ _ sl Q I rx hs pl pu ⟨a, vs, rfl, ha, fun p np => q _ _ (resLst (cut_reps ra) np)⟩
  · obtain ⟨a, vs, rfl, ha, ra⟩ := t.tuple
    cases hf
    exact sl_tupA pins s σ H _ v vl vu _ _ sl Q I rx hs pl pu ⟨a, vs, rfl, ha, fun hw => q _ _ (resV (cut_whole t ra hw)), fun _ p np => q _ _ (resTup hO (cut_reps ra) np)⟩
  · split at hf
    · rename_i hz
      have sk := t.strOk
      cases t.str; cases hf
      exact sl_str pins s σ H _ v vl vu _ _ sl Q I rx hs pl pu ⟨_, rfl, szb_ok hz, q _ _ (resV (.str _ (strOk_cut sk)))⟩
    · cases hf
  · cases hf
theorem zpe_slice {lo hi : Option Expr} {p2 : Pos} {fl fh : MI} (ha : PE X a (tOpd X fa)) (hl : PO X lo (tI X fl)) (hh : PO X hi (tI X fh)) : PE X (.Subscript a (.Slice lo hi none p2) pos) (tE X (eSl fa fl fh)) := by
  refine ⟨fun pins s σ H Q I hq => (pe_slice sld ha hl hh).run pins s σ H Q I ?_⟩
  obtain ⟨c, E, ρ, rv, ρ', hK, hR, hf, q⟩ := hq
  obtain ⟨⟨p1, ρ1⟩, h1, hf⟩ := bindS hf
  obtain ⟨⟨l, ρ2⟩, h2, hf⟩ := bindS hf
  obtain ⟨⟨u, ρ3⟩, h3, hf⟩ := bindS hf
  obtain ⟨x, h4, hf⟩ := bindS hf
  obtain ⟨w, h5, hf⟩ := bindS hf
  cases hf
  refine ⟨c, E, ρ, p1, ρ1, hK, hR, h1, fun z H1 P1 => ⟨c, E, ρ1, l, ρ2, hK, P1.2.1, h2, fun H2 P2 => ⟨c, E, ρ2, u, ρ3, hK, P2.2, h3, fun H3 P3 => ?_⟩⟩⟩
  refine ⟨OE ρ3 σ E, x, rv, oe_there P3.2, ?_, h5, fun z H' rb => q z H' (ResB.post (P1.1.trans (P2.1.trans P3.1)) P3.2 (by rw [hK]; exact rb))⟩
  rw [← hK]; exact P1.top (P2.1.trans P3.1) P3.2 h4
end
end Z
namespace Z
open PySem PySem.Spec L2
open PyProof.Rows hiding St

/-! ## stores -/
section
variable {c : Cn} {E E' : AS} {ρ ρ1 ρ' : Rho} {σ σ' : L2.St} {H H1 H' : Hp} {d : D} {z : V} {a : Addr} {i : Nat}
theorem get_set {α : Type} {l : List α} {i j : Nat} {x y : α} (h : (l.set i x)[j]? = some y) : (j = i ∧ x = y ∧ i < l.length) ∨ (j ≠ i ∧ l[j]? = some y) := by
  by_cases e : j = i
  · subst e
    by_cases hl : j < l.length
    · rw [List.getElem?_set_self hl] at h
      exact .inl ⟨rfl, Option.some.inj h, hl⟩
    · rw [List.getElem?_eq_none (by simpa using hl)] at h; cases h
  · rw [List.getElem?_set_ne (Ne.symm e)] at h
    exact .inr ⟨e, h⟩
/-- a slot gets a plain value -/
theorem R.setV (r : R c E ρ σ H) (v : Rep c.K H (OE ρ σ E) d z) (np : i ∉ c.pr) : R c E (ρ.set i (some (.v d))) (σ.set i (some z)) H ∧ Stp ρ σ H (ρ.set i (some (.v d))) (σ.set i (some z)) H := by
  have sub : ∀ (j : Nat) (e : D), (ρ.set i (some (.v d)))[j]? = some (some (.o e)) → j ≠ i ∧ ρ[j]? = some (some (.o e)) := fun j e q => by
    rcases get_set q with ⟨_, q, _⟩ | q
    · cases q
    · exact q
  have sg : ∀ {j : Nat}, j ≠ i → (σ.set i (some z))[j]? = σ[j]? := fun h => List.getElem?_set_ne (Ne.symm h)
  have osub : ∀ b, OwnS (ρ.set i (some (.v d))) (σ.set i (some z)) b → OwnS ρ σ b := fun b ⟨j, e, q1, q2⟩ => by
    obtain ⟨h1, h2⟩ := sub j e q1
    rw [sg h1] at q2
    exact ⟨j, e, h2, q2⟩
  have k : Keeps H (OE ρ σ E) H (OE (ρ.set i (some (.v d))) (σ.set i (some z)) E) := fun b o q n => ⟨q, fun y => n (y.elim .inl fun y => .inr (osub b y))⟩
  refine ⟨⟨by rw [List.length_set, List.length_set]; exact r.len, fun j e q => ?_, fun j e q => ?_, fun j l e f x q1 q2 h1 h2 => ?_, r.eal, r.al, fun j hj => ?_⟩, fun _ _ h _ => h, fun _ _ h => ⟨_, h⟩, fun b _ _ q => osub b q⟩
  · rcases get_set q with ⟨e1, e2, e3⟩ | ⟨e1, e2⟩
    · subst e1
      cases e2
      exact ⟨z, List.getElem?_set_self (by rw [← r.len]; exact e3), v.mono k⟩
    · obtain ⟨v, h1, h2⟩ := r.val j e e2
      exact ⟨v, by rw [sg e1]; exact h1, h2.mono k⟩
  · obtain ⟨h1, h2⟩ := sub j e q
    obtain ⟨x, h3, h4, h5⟩ := r.own j e h2
    exact ⟨x, by rw [sg h1]; exact h3, h4.mono k (fun _ h => h), h5⟩
  · obtain ⟨a1, a2⟩ := sub j e q1
    obtain ⟨b1, b2⟩ := sub l f q2
    rw [sg a1] at h1
    rw [sg b1] at h2
    exact r.inj j l e f x a2 b2 h1 h2
  · rw [sg (fun e => np (e ▸ hj))]
    exact r.prt j hj
/-- a slot gets a new list -/
theorem R.setO (r : R c (Add E a) ρ σ H) (v : OwnAt c.K H (OE ρ σ (Add E a)) d a) (nE : ¬ E a) (n0 : c.H0 a = none) (np : i ∉ c.pr) :
    R c E (ρ.set i (some (.o d))) (σ.set i (some (.ref a))) H ∧ ∀ b, OwnS (ρ.set i (some (.o d))) (σ.set i (some (.ref a))) b → b = a ∨ OwnS ρ σ b := by
  have sg : ∀ {j : Nat}, j ≠ i → (σ.set i (some (.ref a)))[j]? = σ[j]? := fun h => List.getElem?_set_ne (Ne.symm h)
  have own' : ∀ (j : Nat) (e : D) (b : Addr), (ρ.set i (some (.o d)))[j]? = some (some (.o e)) → (σ.set i (some (.ref a)))[j]? = some (some (.ref b)) → (j = i ∧ e = d ∧ b = a) ∨ (j ≠ i ∧ ρ[j]? = some (some (.o e)) ∧ σ[j]? = some (some (.ref b))) := fun j e b q1 q2 => by
    rcases get_set q1 with ⟨e1, e2, e3⟩ | ⟨e1, e2⟩
    · subst e1
      rw [List.getElem?_set_self (by rw [← r.len]; exact e3)] at q2
      cases e2; cases q2
      exact .inl ⟨rfl, rfl, rfl⟩
    · rw [sg e1] at q2
      exact .inr ⟨e1, e2, q2⟩
  have osub : ∀ b, OwnS (ρ.set i (some (.o d))) (σ.set i (some (.ref a))) b → b = a ∨ OwnS ρ σ b := fun b ⟨j, e, q1, q2⟩ => by
    rcases own' j e b q1 q2 with ⟨_, _, q⟩ | ⟨_, q3, q4⟩
    · exact .inl q
    · exact .inr ⟨j, e, q3, q4⟩
  have k : Keeps H (OE ρ σ (Add E a)) H (OE (ρ.set i (some (.o d))) (σ.set i (some (.ref a))) E) := fun b o q n => ⟨q, fun y => n (y.elim (fun y => .inl (.inl y)) fun y => (osub b y).elim (fun e => .inl (.inr e)) .inr)⟩
  refine ⟨⟨by rw [List.length_set, List.length_set]; exact r.len, fun j e q => ?_, fun j e q => ?_, fun j l e f x q1 q2 h1 h2 => ?_, fun b h => r.eal b (.inl h), r.al, fun j hj => ?_⟩, osub⟩
  · rcases get_set q with ⟨e1, e2, e3⟩ | ⟨e1, e2⟩
    · cases e2
    · obtain ⟨v, h1, h2⟩ := r.val j e e2
      exact ⟨v, by rw [sg e1]; exact h1, h2.mono k⟩
  · rcases get_set q with ⟨e1, e2, e3⟩ | ⟨e1, e2⟩
    · subst e1
      cases e2
      exact ⟨a, List.getElem?_set_self (by rw [← r.len]; exact e3), v.mono k (fun _ h => h), nE, .inl n0⟩
    · obtain ⟨x, h3, h4, h5, h6⟩ := r.own j e e2
      exact ⟨x, by rw [sg e1]; exact h3, h4.mono k (fun _ h => h), fun h => h5 (.inl h), h6⟩
  · rcases own' j e x q1 h1 with ⟨j1, _, jx⟩ | ⟨j1, j2, j3⟩
    · rcases own' l f x q2 h2 with ⟨l1, _, _⟩ | ⟨l1, l2, l3⟩
      · rw [j1, l1]
      · exact absurd (show Add E a x from .inr jx) (r.own_not ⟨l, f, l2, l3⟩)
    · rcases own' l f x q2 h2 with ⟨l1, _, lx⟩ | ⟨l1, l2, l3⟩
      · exact absurd (show Add E a x from .inr lx) (r.own_not ⟨j, e, j2, j3⟩)
      · exact r.inj j l e f x j2 l2 j3 l3
  · rw [sg (fun e => np (e ▸ hj))]
    exact r.prt j hj
/-- an own slot's list is changed -/
theorem R.chg {d' : D} (r : R c E ρ σ H) (h : ρ[i]? = some (some (.o d))) (ha : σ[i]? = some (some (.ref a))) (keep : ∀ b o, b ≠ a → H b = some o → H' b = some o) (o : OwnAt c.K H' (OE ρ σ E) d' a) :
    R c E (ρ.set i (some (.o d'))) σ H' ∧ Stp ρ σ H (ρ.set i (some (.o d'))) σ H' := by
  have hi : i < ρ.length := (List.getElem?_eq_some_iff.mp h).1
  have own' : ∀ (j : Nat) (e : D), (ρ.set i (some (.o d')))[j]? = some (some (.o e)) → ∃ e', ρ[j]? = some (some (.o e')) := fun j e q => by
    rcases get_set q with ⟨e1, _, _⟩ | ⟨_, e2⟩
    · rw [e1]; exact ⟨_, h⟩
    · exact ⟨_, e2⟩
  have oS : OwnS (ρ.set i (some (.o d'))) σ = OwnS ρ σ := by
    funext b
    apply propext
    constructor
    · rintro ⟨j, e, q1, q2⟩
      obtain ⟨e', q3⟩ := own' j e q1
      exact ⟨j, e', q3, q2⟩
    · rintro ⟨j, e, q1, q2⟩
      by_cases hj : j = i
      · subst hj
        exact ⟨j, d', List.getElem?_set_self hi, q2⟩
      · exact ⟨j, e, by rw [List.getElem?_set_ne (Ne.symm hj)]; exact q1, q2⟩
  have oE : OE (ρ.set i (some (.o d'))) σ E = OE ρ σ E := by unfold OE; rw [oS]
  have na : OwnS ρ σ a := ⟨i, d, h, ha⟩
  have kk : ∀ b o, H b = some o → ¬ OwnS ρ σ b → H' b = some o := fun b o q n => keep b o (fun e => n (e ▸ na)) q
  have k : Keeps H (OE ρ σ E) H' (OE ρ σ E) := fun b o q n => ⟨kk b o q (fun y => n (.inr y)), n⟩
  have all : ∀ b o, H b = some o → ∃ o', H' b = some o' := fun b u q => by
    by_cases hb : b = a
    · rw [hb]; exact o.there
    · exact ⟨u, keep b u hb q⟩
  refine ⟨⟨by rw [List.length_set]; exact r.len, fun j e q => ?_, fun j e q => ?_, fun j l e f x q1 q2 h1 h2 => ?_, fun b q => let ⟨u, h1⟩ := r.eal b q; all b u h1, fun b u q => let ⟨u', h1⟩ := r.al b u q; all b u' h1, r.prt⟩, kk, all, fun b _ _ q => by rw [← oS]; exact q⟩
  · rcases get_set q with ⟨_, e2, _⟩ | ⟨e1, e2⟩
    · cases e2
    · obtain ⟨v, h1, h2⟩ := r.val j e e2
      exact ⟨v, h1, by rw [oE]; exact h2.mono k⟩
  · rcases get_set q with ⟨e1, e2, _⟩ | ⟨e1, e2⟩
    · subst e1
      cases e2
      obtain ⟨x, h3, h4, h5, h6⟩ := r.own j d h
      rw [ha] at h3
      cases h3
      exact ⟨a, ha, by rw [oE]; exact o, h5, h6⟩
    · obtain ⟨x, h3, h4, h5, h6⟩ := r.own j e e2
      have hx : x ≠ a := fun e' => e1 (r.inj j i e d a e2 h (e' ▸ h3) ha)
      exact ⟨x, h3, by rw [oE]; exact h4.mono k (fun o q => keep x o hx q), h5, h6⟩
  · obtain ⟨e', q3⟩ := own' j e q1
    obtain ⟨f', q4⟩ := own' l f q2
    exact r.inj j l e' f' x q3 q4 h1 h2
end

/-! ## statements -/
inductive Out where
  | nx | bk | ct
  | rt (r : RV)
abbrev SS := Rho → Option (Out × Rho)
def PostN (c : Cn) (E : AS) (ρ : Rho) (σ : L2.St) (H : Hp) (ρ' : Rho) (σ' : L2.St) (H' : Hp) : Prop := Stp ρ σ H ρ' σ' H' ∧ R c E ρ' σ' H'
def PostR (c : Cn) (E : AS) (ρ : Rho) (σ : L2.St) (H : Hp) (ρ' : Rho) (σ' : L2.St) (H' : Hp) (rv : RV) (z : V) : Prop :=
  match rv with
  | .v d => PostN c E ρ σ H ρ' σ' H' ∧ Rep c.K H' (OE ρ' σ' E) d z
  | .o d => ∃ a, z = .ref a ∧ Stp ρ σ H ρ' σ' H' ∧ c.H0 a = none ∧ R c (Add E a) ρ' σ' H' ∧ OwnAt c.K H' (OE ρ' σ' (Add E a)) d a
/-- where a statement ends -/
def EndS (c : Cn) (E : AS) (ρ : Rho) (σ : L2.St) (H : Hp) (ρ' : Rho) (out : Out) (Dd : Ends) : Prop :=
  match out with
  | .nx => ∀ σ' H', PostN c E ρ σ H ρ' σ' H' → Dd.nx σ' H'
  | .bk => ∀ σ' H', PostN c E ρ σ H ρ' σ' H' → Dd.bk σ' H'
  | .ct => ∀ σ' H', PostN c E ρ σ H ρ' σ' H' → Dd.ct σ' H'
  | .rt rv => ∀ z σ' H', PostR c E ρ σ H ρ' σ' H' rv z → Dd.rt z H'
def tS (X : Cx) (pr : List Nat) (s : SS) : TS := fun Dd σ H => ∃ c E ρ out ρ', c.K = X.K ∧ c.pr = pr ∧ R c E ρ σ H ∧ s ρ = some (out, ρ') ∧ EndS c E ρ σ H ρ' out Dd
theorem PostN.trans {c : Cn} {E : AS} {ρ ρ1 ρ2 : Rho} {σ σ1 σ2 : L2.St} {H H1 H2 : Hp} (p : PostN c E ρ σ H ρ1 σ1 H1) (q : PostN c E ρ1 σ1 H1 ρ2 σ2 H2) : PostN c E ρ σ H ρ2 σ2 H2 := ⟨p.1.trans q.1, q.2⟩
theorem PostR.from {c : Cn} {E : AS} {ρ ρ1 ρ2 : Rho} {σ σ1 σ2 : L2.St} {H H1 H2 : Hp} {rv : RV} {z : V} (p : PostN c E ρ σ H ρ1 σ1 H1) (q : PostR c E ρ1 σ1 H1 ρ2 σ2 H2 rv z) : PostR c E ρ σ H ρ2 σ2 H2 rv z := by
  cases rv with
  | v d => exact ⟨p.trans q.1, q.2⟩
  | o d => obtain ⟨a, rfl, s, n, r⟩ := q; exact ⟨a, rfl, p.1.trans s, n, r⟩
theorem EndS.from {c : Cn} {E : AS} {ρ ρ1 ρ2 : Rho} {σ σ1 : L2.St} {H H1 : Hp} {out : Out} {Dd : Ends} (p : PostN c E ρ σ H ρ1 σ1 H1) (h : EndS c E ρ σ H ρ2 out Dd) : EndS c E ρ1 σ1 H1 ρ2 out Dd := by
  cases out with
  | nx => exact fun σ' H' q => h σ' H' (p.trans q)
  | bk => exact fun σ' H' q => h σ' H' (p.trans q)
  | ct => exact fun σ' H' q => h σ' H' (p.trans q)
  | rt rv => exact fun z σ' H' q => h z σ' H' (PostR.from p q)

def sNil : SS := fun ρ => some (.nx, ρ)
def sSeq (s t : SS) : SS := fun ρ => (s ρ).bind fun r => match r.1 with
  | .nx => t r.2
  | o => some (o, r.2)
def sDrop (f : ME) : SS := fun ρ => (f ρ).bind fun r => some (.nx, r.2)
def sSet (pr : List Nat) (i : Nat) (f : ME) : SS := fun ρ => if pr.contains i then none else (f ρ).bind fun r => some (.nx, r.2.set i (some r.1))
def sRet (f : ME) : SS := fun ρ => (f ρ).bind fun r => some (.rt r.1, r.2)
def ownAt (ρ : Rho) (i : Nat) : Bool := match ρ[i]? with
  | some (some (.o _)) => true
  | _ => false
theorem ownAt_ok {ρ : Rho} {i : Nat} (h : ownAt ρ i = true) : ∃ d, ρ[i]? = some (some (.o d)) := by
  unfold ownAt at h
  split at h
  · rename_i d q; exact ⟨d, q⟩
  · cases h
/-- return x -/
def sRetV (pr : List Nat) (i : Nat) : SS := fun ρ => match ρ[i]? with
  | some (some (.v d)) => some (.rt (.v d), ρ)
  | some (some (.o d)) => if pr.contains i || !pr.all (ownAt ρ) then none else some (.rt (.o d), ρ.set i none)
  | _ => none
def sRetN : SS := fun ρ => some (.rt (.v .none), ρ)
def sIf (t : MB) (a b : SS) : SS := fun ρ => (t ρ).bind fun r => if r.1 then a r.2 else b r.2
def sBad : SS := fun _ => none
def whileN (t : MB) (b : SS) : Nat → SS
  | 0 => fun _ => none
  | n + 1 => fun ρ => (t ρ).bind fun r => if r.1 then (b r.2).bind fun s => match s.1 with
      | .nx => whileN t b n s.2
      | .ct => whileN t b n s.2
      | .bk => some (.nx, s.2)
      | .rt v => some (.rt v, s.2)
    else some (.nx, r.2)

section
variable {X : Cx} {pr : List Nat} {e : Expr} {f : ME} {bt : MB} {s t : SS} {st : Stmt} {sts : List Stmt} {pos : Pos}
theorem zs_nil : PSs X [] (tS X pr sNil) := by
  refine ⟨fun pins s σ H Dd I hq => pss_nil.run pins s σ H Dd I ?_⟩
  obtain ⟨c, E, ρ, out, ρ', hK, hp, hR, hf, q⟩ := hq
  cases hf
  exact q σ H ⟨Stp.rfl, hR⟩
theorem zs_cons (h1 : PS X st (tS X pr s)) (h2 : PSs X sts (tS X pr t)) : PSs X (st :: sts) (tS X pr (sSeq s t)) := by
  refine ⟨fun pins s σ H Dd I hq => (pss_cons h1 h2).run pins s σ H Dd I ?_⟩
  obtain ⟨c, E, ρ, out, ρ', hK, hp, hR, hf, q⟩ := hq
  obtain ⟨⟨o1, ρ1⟩, h1, hf⟩ := bindS hf
  refine ⟨c, E, ρ, o1, ρ1, hK, hp, hR, h1, ?_⟩
  cases o1 with
  | nx => exact fun σ' H' p => ⟨c, E, ρ1, out, ρ', hK, hp, p.2, hf, q.from p⟩
  | bk => cases hf; exact q
  | ct => cases hf; exact q
  | rt rv => cases hf; exact q
theorem zs_pass : PS X (.Pass pos) (tS X pr sNil) := by
  refine ⟨fun pins s σ H Dd I hq => ps_pass.run pins s σ H Dd I ?_⟩
  obtain ⟨c, E, ρ, out, ρ', hK, hp, hR, hf, q⟩ := hq
  cases hf
  exact q σ H ⟨Stp.rfl, hR⟩
theorem zs_bad : PS X st (tS X pr sBad) := by
  refine ⟨fun pins s σ H Dd I hq => ?_⟩
  obtain ⟨c, E, ρ, out, ρ', hK, hp, hR, hf, q⟩ := hq
  cases hf
theorem zs_drop (h : PE X e (tE X f)) (hs : swapsWith e none pos.line X.env = pure false) : PS X (.Expr e pos) (tS X pr (sDrop f)) := by
  refine ⟨fun pins s σ H Dd I hq => (ps_expr h hs).run pins s σ H Dd I ?_⟩
  obtain ⟨c, E, ρ, out, ρ', hK, hp, hR, hf, q⟩ := hq
  obtain ⟨⟨rv, ρ1⟩, h1, hf⟩ := bindS hf
  cases hf
  exact ⟨c, E, ρ, rv, ρ1, hK, hR, h1, fun z H1 P1 => let p := P1.pv hR; q σ H1 ⟨p.1, p.2.1⟩⟩
theorem PostE.nE {c : Cn} {E : AS} {ρ ρ1 : Rho} {σ : L2.St} {H H1 : Hp} {a : Addr} (hR : R c E ρ σ H) (n : H a = none) : ¬ E a ∧ c.H0 a = none := by
  constructor
  · intro h
    obtain ⟨u, hu⟩ := hR.eal a h
    rw [n] at hu; cases hu
  · cases q : c.H0 a with
    | none => rfl
    | some u =>
      obtain ⟨w, hw⟩ := hR.al a u q
      rw [n] at hw; cases hw
/-- behind a value: the slot i has it -/
theorem post_set {c : Cn} {E : AS} {ρ ρ1 : Rho} {σ : L2.St} {H H1 : Hp} {rv : RV} {z : V} {i : Nat} (hR : R c E ρ σ H) (P : PostE c E ρ σ H ρ1 H1 rv z) (np : i ∉ c.pr) : PostN c E ρ σ H (ρ1.set i (some rv)) (σ.set i (some z)) H1 := by
  cases rv with
  | v d =>
    obtain ⟨s1, r1, p1⟩ := P
    obtain ⟨r2, s2⟩ := r1.setV p1 np
    exact ⟨s1.trans s2, r2⟩
  | o d =>
    obtain ⟨a, rfl, s1, n, r1, o⟩ := P
    obtain ⟨nE, n0⟩ := PostE.nE (ρ1 := ρ1) (H1 := H1) hR n
    obtain ⟨r2, os⟩ := r1.setO o nE n0 np
    refine ⟨⟨s1.keep, s1.all, fun b o hb q => ?_⟩, r2⟩
    rcases os b q with e | e
    · rw [e, n] at hb; cases hb
    · exact s1.own b o hb e
theorem ncont {l : List Nat} {i : Nat} (h : ¬ l.contains i = true) : i ∉ l := fun q => h (by simpa using q)
theorem zs_set' {i : Nat} {tg : Expr} (h : PS X (.Assign [tg] e pos) (tAsg (tE X f) (gName i))) : PS X (.Assign [tg] e pos) (tS X pr (sSet pr i f)) := by
  refine ⟨fun pins s σ H Dd I hq => h.run pins s σ H Dd I ?_⟩
  obtain ⟨c, E, ρ, out, ρ', hK, hp, hR, hf, q⟩ := hq
  unfold sSet at hf
  split at hf
  · cases hf
  · rename_i np
    obtain ⟨⟨rv, ρ1⟩, h1, hf⟩ := bindS hf
    cases hf
    exact ⟨c, E, ρ, rv, ρ1, hK, hR, h1, fun z H1 P1 => q _ H1 (post_set hR P1 (by rw [hp]; exact ncont np))⟩
theorem zs_ret (h : PE X e (tE X f)) : PS X (.Return (some e) pos) (tS X pr (sRet f)) := by
  refine ⟨fun pins s σ H Dd I hq => (ps_ret h).run pins s σ H Dd I ?_⟩
  obtain ⟨c, E, ρ, out, ρ', hK, hp, hR, hf, q⟩ := hq
  obtain ⟨⟨rv, ρ1⟩, h1, hf⟩ := bindS hf
  cases hf
  refine ⟨c, E, ρ, rv, ρ1, hK, hR, h1, fun z H1 P1 => q z σ H1 ?_⟩
  cases rv with
  | v d => exact ⟨⟨P1.1, P1.2.1⟩, P1.2.2⟩
  | o d =>
    obtain ⟨a, rfl, s1, n, r1, o⟩ := P1
    exact ⟨a, rfl, s1, (PostE.nE (ρ1 := ρ1) (H1 := H1) hR n).2, r1, o⟩
theorem zs_retN : PS X (.Return none pos) (tS X pr sRetN) := by
  refine ⟨fun pins s σ H Dd I hq => ps_retN.run pins s σ H Dd I ?_⟩
  obtain ⟨c, E, ρ, out, ρ', hK, hp, hR, hf, q⟩ := hq
  cases hf
  exact q .non σ H ⟨⟨Stp.rfl, hR⟩, .non⟩
theorem R.lose {c : Cn} {E : AS} {ρ : Rho} {σ : L2.St} {H : Hp} {i : Nat} {d : D} (r : R c E ρ σ H) (h : ρ[i]? = some (some (.o d))) (np : i ∉ c.pr) (ap : ∀ j ∈ c.pr, ownAt ρ j = true) :
    ∃ a, σ[i]? = some (some (.ref a)) ∧ c.H0 a = none ∧ R c (Add E a) (ρ.set i none) σ H ∧ OwnAt c.K H (OE (ρ.set i none) σ (Add E a)) d a ∧ Stp ρ σ H (ρ.set i none) σ H := by
  obtain ⟨a, h1, h2, h3, h4⟩ := r.own i d h
  have sub : ∀ (j : Nat) (e : RV), (ρ.set i none)[j]? = some (some e) → j ≠ i ∧ ρ[j]? = some (some e) := fun j e q => by
    rcases get_set q with ⟨_, q, _⟩ | q
    · cases q
    · exact q
  have osub : ∀ b, OwnS (ρ.set i none) σ b → OwnS ρ σ b := fun b ⟨j, e, q1, q2⟩ => ⟨j, e, (sub j _ q1).2, q2⟩
  have na : OwnS ρ σ a := ⟨i, d, h, h1⟩
  have k : Keeps H (OE ρ σ E) H (OE (ρ.set i none) σ (Add E a)) := fun b o q n => ⟨q, fun y => y.elim (fun y => y.elim (fun y => n (.inl y)) fun e => n (.inr (e ▸ na))) fun y => n (.inr (osub b y))⟩
  have n0 : c.H0 a = none := by
    rcases h4 with h4 | ⟨j, hj, ej⟩
    · exact h4
    · obtain ⟨e, he⟩ := ownAt_ok (ap j hj)
      have q : σ[j]? = some (some (.ref a)) := by rw [r.prt j hj]; exact ej
      exact absurd (r.inj j i e d a he h q h1 ▸ hj) np
  refine ⟨a, h1, n0, ⟨by rw [List.length_set]; exact r.len, fun j e q => ?_, fun j e q => ?_, fun j l e f x q1 q2 => ?_, fun b q => ?_, r.al, r.prt⟩, h2.mono k (fun _ h => h), fun _ _ h _ => h, fun _ _ h => ⟨_, h⟩, fun b _ _ q => osub b q⟩
  · obtain ⟨v, h5, h6⟩ := r.val j e (sub j _ q).2
    exact ⟨v, h5, h6.mono k⟩
  · obtain ⟨q1, q2⟩ := sub j _ q
    obtain ⟨x, h5, h6, h7, h8⟩ := r.own j e q2
    refine ⟨x, h5, h6.mono k (fun _ h => h), fun y => y.elim h7 fun e' => q1 (r.inj j i e d a q2 h (e' ▸ h5) h1), h8⟩
  · exact r.inj j l e f x (sub _ _ q1).2 (sub _ _ q2).2
  · rcases q with q | q
    · exact r.eal b q
    · rw [q]; exact h2.there
theorem zs_retV {i : Nat} (h : PE X e (tVar i)) : PS X (.Return (some e) pos) (tS X pr (sRetV pr i)) := by
  refine ⟨fun pins s σ H Dd I hq => (ps_ret h).run pins s σ H Dd I ?_⟩
  obtain ⟨c, E, ρ, out, ρ', hK, hp, hR, hf, q⟩ := hq
  unfold sRetV at hf
  split at hf
  · rename_i d hr
    cases hf
    obtain ⟨v, h1, h2⟩ := hR.val i d hr
    exact ⟨v, h1, q v σ H ⟨⟨Stp.rfl, hR⟩, h2⟩⟩
  · rename_i d hr
    split at hf
    · cases hf
    · rename_i np
      cases hf
      rw [Bool.or_eq_true, not_or] at np
      obtain ⟨np1, np2⟩ := np
      have ap : ∀ j ∈ pr, ownAt ρ j = true := by simpa using np2
      obtain ⟨a, h1, n, r1, o, s1⟩ := hR.lose hr (by rw [hp]; exact ncont np1) (by rw [hp]; exact ap)
      exact ⟨_, h1, q _ σ H ⟨a, rfl, s1, n, r1, o⟩⟩
  · cases hf
theorem zs_if {t0 : Expr} {as bs : List Stmt} (ht : PT X t0 (tT X bt)) (ha : PSs X as (tS X pr s)) (hb : PSs X bs (tS X pr t)) : PS X (.If t0 as bs pos) (tS X pr (sIf bt s t)) := by
  refine ⟨fun pins s σ H Dd I hq => (ps_if ht ha hb).run pins s σ H Dd I ?_⟩
  obtain ⟨c, E, ρ, out, ρ', hK, hp, hR, hf, q⟩ := hq
  obtain ⟨⟨k, ρ1⟩, h1, hf⟩ := bindS hf
  refine ⟨c, E, ρ, k, ρ1, hK, hR, h1, fun H1 P1 => ?_⟩
  cases k with
  | true => exact iteT ⟨c, E, ρ1, out, ρ', hK, hp, P1.2, hf, q.from P1⟩
  | false => exact iteF ⟨c, E, ρ1, out, ρ', hK, hp, P1.2, hf, q.from P1⟩
theorem zs_while {n : Nat} {t0 : Expr} {bs : List Stmt} (hpo : PassesOwn (model X.prog X.w) X.A X.env X.xe) (ht : PT X t0 (tT X bt)) (hb : PSs X bs (tS X pr s)) : PS X (.While t0 bs [] pos) (tS X pr (whileN bt s n)) := by
  refine ⟨fun pins s0 σ H Dd I hq => (ps_while hpo ht hb).run pins s0 σ H Dd I ?_⟩
  obtain ⟨c, E, ρ, out, ρ', hK, hp, hR, hf, q⟩ := hq
  refine ⟨fun m σ1 H1 => ∃ ρ1, R c E ρ1 σ1 H1 ∧ whileN bt s m ρ1 = some (out, ρ') ∧ EndS c E ρ1 σ1 H1 ρ' out Dd, ⟨n, ρ, hR, hf, q⟩, ?_⟩
  rintro m σ1 H1 ⟨ρ1, R1, f1, q1⟩
  cases m with
  | zero => cases f1
  | succ m =>
    obtain ⟨⟨k, ρ2⟩, h2, f1⟩ := bindS f1
    refine ⟨c, E, ρ1, k, ρ2, hK, R1, h2, fun H2 P2 => ?_⟩
    cases k with
    | false =>
      cases f1
      exact iteF (q1 σ1 H2 P2)
    | true =>
      obtain ⟨⟨o3, ρ3⟩, h3, f1⟩ := bindS f1
      refine iteT ⟨fun σ' H' => ∃ ρ1, R c E ρ1 σ' H' ∧ whileN bt s m ρ1 = some (out, ρ') ∧ EndS c E ρ1 σ' H' ρ' out Dd, fun σ' H' h => ⟨m, Nat.lt_succ_self _, h⟩, c, E, ρ2, o3, ρ3, hK, hp, P2.2, h3, ?_⟩
      have P2' : PostN c E ρ1 σ1 H1 ρ2 σ1 H2 := P2
      cases o3 with
      | nx => exact fun σ' H' p => ⟨ρ3, p.2, f1, EndS.from (P2'.trans p) q1⟩
      | ct => exact fun σ' H' p => ⟨ρ3, p.2, f1, EndS.from (P2'.trans p) q1⟩
      | bk => cases f1; exact fun σ' H' p => q1 σ' H' (P2'.trans p)
      | rt rv => cases f1; exact fun z σ' H' p => q1 z σ' H' (PostR.from P2' p)
end
end Z
namespace Z
open PySem PySem.Spec L2
open PyProof.Rows hiding St

/-! ## targets -/
abbrev SG := D → Rho → Option Rho
abbrev SGs := List D → Rho → Option Rho
def Same' (tv : List Nat) (σ σ' : L2.St) : Prop := σ'.length = σ.length ∧ ∀ j, j ∉ tv → σ'[j]? = σ[j]?
def tG (X : Cx) (pr tv : List Nat) (g : SG) : TG := fun v σ H Q => ∃ c E ρ d ρ', c.K = X.K ∧ c.pr = pr ∧ R c E ρ σ H ∧ Rep c.K H (OE ρ σ E) d v ∧ g d ρ = some ρ' ∧ ∀ σ' H', PostN c E ρ σ H ρ' σ' H' → Same' tv σ σ' → Q σ' H'
def tGs (X : Cx) (pr tv : List Nat) (g : SGs) : TGs := fun vs σ H Q => ∃ c E ρ ds ρ', c.K = X.K ∧ c.pr = pr ∧ R c E ρ σ H ∧ Reps c.K H (OE ρ σ E) ds vs ∧ g ds ρ = some ρ' ∧ ∀ σ' H', PostN c E ρ σ H ρ' σ' H' → Same' tv σ σ' → Q σ' H'
def gN (pr : List Nat) (i : Nat) : SG := fun d ρ => if pr.contains i then none else some (ρ.set i (some (.v d)))
def gNil : SGs := fun ds ρ => match ds with
  | [] => some ρ
  | _ => none
def gCons (g : SG) (h : SGs) : SGs := fun ds ρ => match ds with
  | d :: r => (g d ρ).bind fun ρ1 => h r ρ1
  | [] => none
def gTup (h : SGs) : SG := fun d ρ => match d with
  | .tuple ds => h ds ρ
  | _ => none
def setD (d i x : D) : Option D := match d with
  | .list ds => match i with
    | .int i => (ixN ds.length i).bind fun j => some (.list (ds.set j x))
    | _ => none
  | .dict ds => if isKD i && decide (ds.length < 16777216) then some (.dict (setK ds i x)) else none
  | _ => none
def asV : RV → Option D
  | .v d => some d
  | _ => none
theorem asV_ok {rv : RV} {d : D} (h : asV rv = some d) : rv = .v d := by
  unfold asV at h
  split at h <;> first | (cases h; rfl) | cases h
def rSetD : TSet := fun o i v H Q => rSetL o i v H Q ∨ ∃ a kvs k, o = .ref a ∧ i = kV k ∧ H a = some (.dK kvs) ∧ kvs.length < sizeLine ∧ Q (upd H a (.dK (putK kvs k v)))
theorem set_any {X : Cx} (hu : X.A.units + 66 < cLine) : PSet X rSetD := by
  intro pins s σ H o i v ov iv u Q I ro ri rv h
  rcases h with h | ⟨a, kvs, k, rfl, rfl, e, hl, q⟩
  · exact set_list pins s σ H o i v ov iv u Q I ro ri rv h
  · cases ro
    exact d_setItem (by omega) I (.k e hl) ri rv fun s' I' => ⟨_, I', q⟩
def gIx (o : Nat) (fi : ME) : SG := fun d ρ => (slot ρ o).bind fun _ => (fi ρ).bind fun r => (asV r.1).bind fun i => match r.2[o]? with
  | some (some (.o l)) => (setD l i d).bind fun l' => some (r.2.set o (some (.o l')))
  | _ => none
def sAsg (f : ME) (g : SG) : SS := fun ρ => (f ρ).bind fun r => (g r.1.d r.2).bind fun ρ2 => some (.nx, ρ2)

section
variable {X : Cx} {pr tv tv2 : List Nat} {e tg : Expr} {es : List Expr} {f fi : ME} {g : SG} {h : SGs} {pos : Pos}
theorem Same'.rfl {σ : L2.St} : Same' tv σ σ := ⟨Eq.refl _, fun _ _ => Eq.refl _⟩
theorem Same'.trans {σ σ1 σ2 : L2.St} (a : Same' tv σ σ1) (b : Same' tv2 σ1 σ2) : Same' (tv ++ tv2) σ σ2 :=
  ⟨b.1.trans a.1, fun j hj => by
    rw [List.mem_append, not_or] at hj
    exact (b.2 j hj.2).trans (a.2 j hj.1)⟩
theorem zg_name {i : Nat} (hg : PG X e (gName i)) : PG X e (tG X pr [i] (gN pr i)) := by
  refine ⟨fun pins s σ H v u Q I r hq => hg.run pins s σ H v u Q I r ?_⟩
  obtain ⟨c, E, ρ, d, ρ', hK, hp, hR, hv, hf, q⟩ := hq
  unfold gN at hf
  split at hf
  · cases hf
  · rename_i np
    cases hf
    obtain ⟨r2, s2⟩ := hR.setV (i := i) hv (by rw [hp]; exact ncont np)
    exact q _ H ⟨s2, r2⟩ ⟨List.length_set, fun j hj => List.getElem?_set_ne (fun e => hj (by rw [e]; exact List.mem_singleton.mpr rfl))⟩
theorem zgs_nil : PGs X [] (tGs X pr [] gNil) := by
  refine ⟨fun pins s σ H vs us Q I r hq => pgs_nil.run pins s σ H vs us Q I r ?_⟩
  obtain ⟨c, E, ρ, ds, ρ', hK, hp, hR, hv, hf, q⟩ := hq
  unfold gNil at hf
  split at hf
  · cases hf
    cases hv
    exact ⟨rfl, q σ H ⟨Stp.rfl, hR⟩ Same'.rfl⟩
  · cases hf
theorem zgs_cons {g : SG} {h : SGs} (h1 : PG X e (tG X pr tv g)) (h2 : PGs X es (tGs X pr tv2 h)) (hs : (assignEach (e :: es) X.env).map (·.2) = assign e X.env :: (assignEach es X.env).map (·.2)) : PGs X (e :: es) (tGs X pr (tv ++ tv2) (gCons g h)) := by
  refine ⟨fun pins s σ H vs us Q I r hq => (pgs_cons h1 h2 hs).run pins s σ H vs us Q I r ?_⟩
  obtain ⟨c, E, ρ, ds, ρ', hK, hp, hR, hv, hf, q⟩ := hq
  unfold gCons at hf
  split at hf
  · rename_i d r'
    obtain ⟨ρ1, h3, h4⟩ := bindS hf
    cases hv with
    | cons v1 v2 =>
      refine ⟨_, _, rfl, c, E, ρ, d, ρ1, hK, hp, hR, v1, h3, fun σ1 H1 P1 S1 => ⟨c, E, ρ1, r', ρ', hK, hp, P1.2, v2.mono P1.1.keeps, h4, fun σ2 H2 P2 S2 => q σ2 H2 (P1.trans P2) (S1.trans S2)⟩⟩
  · cases hf
def gTn (n : Nat) (h : SGs) : SG := fun d ρ => match d with
  | .tuple ds => if ds.length = n then h ds ρ else none
  | _ => none
theorem zg_tup {k n : Nat} {h : SGs} (hc : X.calm = true) (hh : PGs X es (tGs X pr tv h)) (hn : (assignEach es X.env).length = n) (hst : (assignEach es X.env).findIdx? (·.1) = none) : PG X (.Tuple es k pos) (tG X pr tv (gTn n h)) := by
  refine ⟨fun pins s σ H v u Q I r hq => (pg_tup hc hh hn hst).run pins s σ H v u Q I r ?_⟩
  obtain ⟨c, E, ρ, d, ρ', hK, hp, hR, hv, hf, q⟩ := hq
  unfold gTn at hf
  split at hf
  · rename_i ds
    split at hf
    · rename_i hl
      cases hv with
      | tup ht rs =>
        rw [hK] at ht
        exact ⟨_, _, rfl, ht.sq, by rw [← rs.length]; exact hl, c, E, ρ, ds, ρ', hK, hp, hR, rs, hf, q⟩
    · cases hf
  · cases hf
theorem keeps_upd {c : Cn} {E : AS} {ρ : Rho} {σ : L2.St} {H : Hp} {a : Addr} {o : HO} (na : OwnS ρ σ a) : Keeps H (OE ρ σ E) (upd H a o) (OE ρ σ E) := fun b u q n =>
  by
  have hb : b ≠ a := fun e => n (.inr (by rw [e]; exact na))
  exact ⟨by rw [upd_ne hb]; exact q, n⟩
theorem R.slot_some {c : Cn} {E : AS} {ρ : Rho} {σ : L2.St} {H : Hp} {o : Nat} {d : D} (r : R c E ρ σ H) (h : slot ρ o = some d) : ∃ z, σ[o]? = some (some z) := by
  unfold slot at h
  split at h
  · rename_i rv hr
    cases rv with
    | v d => obtain ⟨v, h3, _⟩ := r.val o d hr; exact ⟨v, h3⟩
    | o d => obtain ⟨v, h3, _⟩ := r.own o d hr; exact ⟨_, h3⟩
  · cases h
theorem zg_ix {o : Nat} {oe ie : Expr} (hu : X.A.units + 66 < cLine) (ho : PE X oe (tVar o)) (hi : PE X ie (tE X fi))
    (ha : ∀ v, assign (.Subscript oe ie pos) X.env v = (do
      let ov ← holding [v] (eval oe X.env)
      let iv ← holding [v, ov] (eval ie X.env)
      standAt pos
      holding [v, ov, iv] (setItem ov iv v)
      release [v, ov, iv] [])) : PG X (.Subscript oe ie pos) (tG X pr [] (gIx o fi)) := by
  refine ⟨fun pins s σ H v u Q I r hq => (pg_sub ho hi (set_any hu) ha).run pins s σ H v u Q I r ?_⟩
  obtain ⟨c, E, ρ, d, ρ', hK, hp, hR, hv, hf, q⟩ := hq
  obtain ⟨_, h0, hf⟩ := bindS hf
  obtain ⟨z, hz⟩ := hR.slot_some h0
  obtain ⟨⟨ri, ρ1⟩, h1, hf⟩ := bindS hf
  obtain ⟨i, h2, hf⟩ := bindS hf
  have e := asV_ok h2
  subst e
  split at hf
  · rename_i l hl
    obtain ⟨l', h3, h4⟩ := bindS hf
    cases h4
    unfold setD at h3
    split at h3
    · rename_i ds
      split at h3
      · rename_i i
        obtain ⟨j, h5, h6⟩ := bindS h3
        cases h6
        refine ⟨z, hz, c, E, ρ, _, ρ1, hK, hR, h1, fun y H1 P1 => ?_⟩
        obtain ⟨s1, r1, p1⟩ := P1.v
        cases p1
        obtain ⟨a, a1, ⟨vs, a2, a3⟩, _⟩ := r1.own o _ hl
        rw [hz] at a1
        cases a1
        refine .inl ⟨a, vs, _, j, rfl, rfl, a2, by rw [← a3.length]; exact h5, ?_⟩
        obtain ⟨r2, s2⟩ := r1.chg (d' := .list (ds.set j d)) (H' := upd H1 a (.lst (vs.set j v))) hl hz (fun b o hb q => by rw [upd_ne hb]; exact q)
          ⟨_, upd_same, Reps.set j ((hv.mono s1.keeps).mono (keeps_upd (c := c) ⟨o, _, hl, hz⟩)) (a3.mono (keeps_upd (c := c) ⟨o, _, hl, hz⟩))⟩
        exact q σ _ ⟨s1.trans s2, r2⟩ Same'.rfl
      · cases h3
    · rename_i ds
      split at h3
      · rename_i hc
        rw [Bool.and_eq_true, decide_eq_true_eq] at hc
        obtain ⟨k, rfl⟩ := isKD_ok hc.1
        cases h3
        refine ⟨z, hz, c, E, ρ, _, ρ1, hK, hR, h1, fun y H1 P1 => ?_⟩
        obtain ⟨s1, r1, p1⟩ := P1.v
        have ey : y = kV k ∧ KeyOk k := by
          cases k with
          | inl i => cases p1; exact ⟨rfl, True.intro⟩
          | inr i => cases p1 with | str _ hz => exact ⟨rfl, hz⟩
        obtain ⟨ey, hkey⟩ := ey
        subst ey
        obtain ⟨a, a1, ⟨kvs, a2, a3⟩, _⟩ := r1.own o _ hl
        rw [hz] at a1
        cases a1
        refine .inr ⟨a, kvs, k, rfl, rfl, a2, by rw [sizeLine_eq, ← a3.length]; exact hc.2, ?_⟩
        obtain ⟨r2, s2⟩ := r1.chg (d' := .dict (setK ds (kD k) d)) (H' := upd H1 a (.dK (putK kvs k v))) hl hz (fun b o hb q => by rw [upd_ne hb]; exact q)
          ⟨_, upd_same, setK_ok hkey ((hv.mono s1.keeps).mono (keeps_upd (c := c) ⟨o, _, hl, hz⟩)) (a3.mono (keeps_upd (c := c) ⟨o, _, hl, hz⟩))⟩
        exact q σ _ ⟨s1.trans s2, r2⟩ Same'.rfl
      · cases h3
    · cases h3
  · cases hf
theorem zs_asg (he : PE X e (tE X f)) (hg : PG X tg (tG X pr tv g)) (hs : swapsWithSole [tg] e pos.line X.env = pure false) (hw : swappedStores [tg] e X.env = pure none)
    (h1 : (assignEach [tg] X.env).map (·.2) = [assign tg X.env]) : PS X (.Assign [tg] e pos) (tS X pr (sAsg f g)) := by
  refine ⟨fun pins s σ H Dd I hq => (ps_asg he hg hs hw h1).run pins s σ H Dd I ?_⟩
  obtain ⟨c, E, ρ, out, ρ', hK, hp, hR, hf, q⟩ := hq
  obtain ⟨⟨rv, ρ1⟩, h1, hf⟩ := bindS hf
  obtain ⟨ρ2, h2, hf⟩ := bindS hf
  cases hf
  refine ⟨c, E, ρ, rv, ρ1, hK, hR, h1, fun z H1 P1 => ?_⟩
  obtain ⟨s1, r1, p1⟩ := P1.pv hR
  exact ⟨c, E, ρ1, rv.d, ρ', hK, hp, r1, p1, h2, fun σ' H' P2 _ => q σ' H' ⟨s1.trans P2.1, P2.2⟩⟩
end

/-! ## calls of the text's own defs -/
structure FnS where
  mask : List Bool
  run : List D → Option (RV × List D)
inductive AR where
  | tv (d : D)
  | sl (i : Nat)
  | ow (d : D)
abbrev MAs := Rho → Option (List AR × Rho)
def AddL (E : AS) (as : List Addr) : AS := fun b => E b ∨ b ∈ as
theorem AddL_nil {E : AS} : AddL E [] = E := by
  funext b; apply propext; constructor
  · rintro (h | h)
    · exact h
    · cases h
  · exact .inl
theorem AddL_cons {E : AS} {a : Addr} {as : List Addr} : AddL (Add E a) as = AddL E (a :: as) := by
  funext b; apply propext; constructor
  · rintro ((h | h) | h)
    · exact .inl h
    · exact .inr (by rw [h]; exact List.mem_cons_self)
    · exact .inr (List.mem_cons_of_mem _ h)
  · rintro (h | h)
    · exact .inl (.inl h)
    · rcases List.mem_cons.mp h with h | h
      · exact .inl (.inr h)
      · exact .inr h
def ArAt (c : Cn) (E : AS) (ρ : Rho) (σ : L2.St) (H : Hp) : List AR → List V → List Addr → Prop
  | [], [], [] => True
  | .tv d :: ps, z :: zs, as => Rep c.K H (OE ρ σ E) d z ∧ ArAt c E ρ σ H ps zs as
  | .sl i :: ps, z :: zs, as => σ[i]? = some (some z) ∧ ArAt c E ρ σ H ps zs as
  | .ow d :: ps, z :: zs, a :: as => z = .ref a ∧ OwnAt c.K H (OE ρ σ E) d a ∧ ArAt c E ρ σ H ps zs as
  | _, _, _ => False
def tAs (X : Cx) (f : MAs) : TA := fun σ H Q => ∃ c E ρ ps ρ', c.K = X.K ∧ R c E ρ σ H ∧ f ρ = some (ps, ρ') ∧
  ∀ zs as H', Stp ρ σ H ρ' σ H' ∧ R c (AddL E as) ρ' σ H' ∧ ArAt c (AddL E as) ρ' σ H' ps zs as ∧ (∀ a ∈ as, H a = none) ∧ as.Nodup → Q zs H'
def aNil : MAs := fun ρ => some ([], ρ)
/-- an argument whose value is kept -/
def aTv (f : ME) (g : MAs) : MAs := fun ρ => (f ρ).bind fun r => (g r.2).bind fun s => some (.tv r.1.d :: s.1, s.2)
/-- a list that the def may change: a name's, a new one -/
def aSl (i : Nat) (g : MAs) : MAs := fun ρ => (slot ρ i).bind fun _ => (g ρ).bind fun s => some (.sl i :: s.1, s.2)
def aOw (f : ME) (g : MAs) : MAs := fun ρ => (f ρ).bind fun r => match r.1 with
  | .o d => (g r.2).bind fun s => some (.ow d :: s.1, s.2)
  | _ => none

section
variable {X : Cx} {e : Expr} {es : List Expr} {f : ME} {g : MAs} {pos : Pos}
theorem ArAt.mono {c : Cn} {E E' : AS} {ρ ρ' : Rho} {σ : L2.St} {H H' : Hp} (k : Keeps H (OE ρ σ E) H' (OE ρ' σ E')) (ko : ∀ b o, E b → H b = some o → H' b = some o) :
    ∀ {ps : List AR} {zs : List V} {as : List Addr}, (∀ a ∈ as, E a) → ArAt c E ρ σ H ps zs as → ArAt c E' ρ' σ H' ps zs as
  | [], [], [], _, _ => True.intro
  | .tv _ :: _, _ :: _, _, ha, h => ⟨h.1.mono k, ArAt.mono k ko ha h.2⟩
  | .sl _ :: _, _ :: _, _, ha, h => ⟨h.1, ArAt.mono k ko ha h.2⟩
  | .ow _ :: _, _ :: _, a :: as, ha, h => ⟨h.1, h.2.1.mono k (fun o q => ko a o (ha a List.mem_cons_self) q), ArAt.mono k ko (fun b hb => ha b (List.mem_cons_of_mem _ hb)) h.2.2⟩
  | [], _ :: _, _, _, h => by cases h
  | [], [], _ :: _, _, h => by cases h
  | .tv _ :: _, [], _, _, h => by cases h
  | .sl _ :: _, [], _, _, h => by cases h
  | .ow _ :: _, [], _, _, h => by cases h
  | .ow _ :: _, _ :: _, [], _, h => by cases h
theorem za_nil : PA X [] (tAs X aNil) := by
  refine ⟨fun pos pins s σ H Q I hq => pa_nil.run pos pins s σ H Q I ?_⟩
  obtain ⟨c, E, ρ, p, ρ', hK, hR, hf, q⟩ := hq
  cases hf
  have h1 : R c (AddL E []) ρ σ H := by rw [AddL_nil]; exact hR
  have h2 : ∀ a ∈ ([] : List Addr), H a = none := fun a h => by cases h
  have h3 : ArAt c (AddL E []) ρ σ H [] [] [] := by unfold ArAt; exact True.intro
  exact q [] [] H ⟨Stp.rfl, h1, h3, h2, List.nodup_nil⟩
theorem za_tv (ha : PE X e (tE X f)) (hr : PA X es (tAs X g)) (hs : starEach (e :: es) X.env = (false, eval e X.env) :: starEach es X.env) : PA X (e :: es) (tAs X (aTv f g)) := by
  refine ⟨fun pos pins s σ H Q I hq => (pa_cons ha hr hs).run pos pins s σ H Q I ?_⟩
  obtain ⟨c, E, ρ, p, ρ', hK, hR, hf, q⟩ := hq
  obtain ⟨⟨rv, ρ1⟩, h1, hf⟩ := bindS hf
  obtain ⟨⟨p2, ρ2⟩, h2, hf⟩ := bindS hf
  cases hf
  refine ⟨c, E, ρ, rv, ρ1, hK, hR, h1, fun x H1 P1 => ?_⟩
  obtain ⟨s1, r1, v1⟩ := P1.pv hR
  refine ⟨c, E, ρ1, p2, ρ2, hK, r1, h2, fun zs as H2 ⟨s2, r2, a2, n2, nd⟩ => q _ as H2 ⟨s1.trans s2, r2, ⟨?_, a2⟩, fun a ha => ?_, nd⟩⟩
  · refine v1.mono fun b o hb n => ⟨s2.keep b o hb fun y => n (.inr y), fun y => ?_⟩
    rcases y with (y | y) | y
    · exact n (.inl y)
    · rw [n2 b y] at hb; cases hb
    · exact n (.inr (s2.own b o hb y))
  · cases q : H a with
    | none => rfl
    | some u => obtain ⟨w, hw⟩ := s1.all a u q; rw [n2 a ha] at hw; cases hw
theorem za_sl {i : Nat} (ha : PE X e (tVar i)) (hr : PA X es (tAs X g)) (hs : starEach (e :: es) X.env = (false, eval e X.env) :: starEach es X.env) : PA X (e :: es) (tAs X (aSl i g)) := by
  refine ⟨fun pos pins s σ H Q I hq => (pa_cons ha hr hs).run pos pins s σ H Q I ?_⟩
  obtain ⟨c, E, ρ, p, ρ', hK, hR, hf, q⟩ := hq
  obtain ⟨d, h0, hf⟩ := bindS hf
  obtain ⟨z, hz⟩ := hR.slot_some h0
  obtain ⟨⟨p2, ρ2⟩, h2, hf⟩ := bindS hf
  cases hf
  exact ⟨z, hz, c, E, ρ, p2, ρ2, hK, hR, h2, fun zs as H2 ⟨s2, r2, a2, n2⟩ => q _ as H2 ⟨s2, r2, ⟨hz, a2⟩, n2⟩⟩
theorem za_ow (ha : PE X e (tE X f)) (hr : PA X es (tAs X g)) (hs : starEach (e :: es) X.env = (false, eval e X.env) :: starEach es X.env) : PA X (e :: es) (tAs X (aOw f g)) := by
  refine ⟨fun pos pins s σ H Q I hq => (pa_cons ha hr hs).run pos pins s σ H Q I ?_⟩
  obtain ⟨c, E, ρ, p, ρ', hK, hR, hf, q⟩ := hq
  obtain ⟨⟨rv, ρ1⟩, h1, hf⟩ := bindS hf
  cases rv with
  | v d => cases hf
  | o d =>
    obtain ⟨⟨p2, ρ2⟩, h2, hf⟩ := bindS hf
    cases hf
    refine ⟨c, E, ρ, _, ρ1, hK, hR, h1, fun x H1 P1 => ?_⟩
    obtain ⟨a, rfl, s1, n1, r1, o1⟩ := P1
    refine ⟨c, Add E a, ρ1, p2, ρ2, hK, r1, h2, fun zs as H2 ⟨s2, r2, a2, n2, nd⟩ => q _ (a :: as) H2 ?_⟩
    rw [AddL_cons] at r2 a2
    obtain ⟨u, hu⟩ := o1.there
    have nS : ¬ OwnS ρ1 σ a := fun y => r1.own_not y (.inr rfl)
    refine ⟨s1.trans s2, r2, ⟨rfl, ?_, a2⟩, fun b hb => ?_, List.nodup_cons.mpr ⟨fun m => ?_, nd⟩⟩
    · refine o1.mono (fun b o hb n => ⟨s2.keep b o hb fun y => n (.inr y), fun y => ?_⟩) fun o q => s2.keep a o q nS
      rcases y with (y | y) | y
      · exact n (.inl (.inl y))
      · rcases List.mem_cons.mp y with y | y
        · exact n (.inl (.inr y))
        · rw [n2 b y] at hb; cases hb
      · exact n (.inr (s2.own b o hb y))
    · rcases List.mem_cons.mp hb with hb | hb
      · rw [hb]; exact n1
      · cases q : H b with
        | none => rfl
        | some u => obtain ⟨w, hw⟩ := s1.all b u q; rw [n2 b hb] at hw; cases hw
    · rw [n2 a m] at hu; cases hu
end

/-- the masked arguments stand at ms -/
def ArgRel (K : PySem.W.Frag) (H : Hp) (O : AS) : List Bool → List D → List V → List Addr → Prop
  | [], [], [], [] => True
  | false :: ms, d :: ds, v :: vs, as => Rep K H O d v ∧ ArgRel K H O ms ds vs as
  | true :: ms, d :: ds, v :: vs, a :: as => v = .ref a ∧ OwnAt K H O d a ∧ ArgRel K H O ms ds vs as
  | _, _, _, _ => False
def Outs (K : PySem.W.Frag) (H : Hp) (O : AS) : List D → List Addr → Prop
  | [], [] => True
  | d :: ds, a :: as => OwnAt K H O d a ∧ Outs K H O ds as
  | _, _ => False
def CallPost (K : PySem.W.Frag) (H : Hp) (O : AS) (ms : List Addr) (outs : List D) (rv : RV) (z : V) (H' : Hp) : Prop :=
  (∀ b o, H b = some o → b ∉ ms → H' b = some o) ∧ (∀ b o, H b = some o → ∃ o', H' b = some o') ∧
  match rv with
  | .v d => Rep K H' O d z ∧ Outs K H' O outs ms
  | .o d => ∃ a, z = .ref a ∧ H a = none ∧ OwnAt K H' (Add O a) d a ∧ Outs K H' (Add O a) outs ms
def spF (K : PySem.W.Frag) (F : FnS) : Sp := fun vs H Q _ => ∃ (O : AS) (ds : List D) (ms : List Addr) (rv : RV) (outs : List D), vs.length = F.mask.length ∧ F.run ds = some (rv, outs) ∧ (∀ b, O b → ∃ o, H b = some o) ∧
  ArgRel K H O F.mask ds vs ms ∧ ms.Nodup ∧ (∀ a ∈ ms, O a) ∧ ∀ z H', CallPost K H O ms outs rv z H' → Q z H'
/-- the data of the arguments -/
def argsD : List Bool → List AR → Rho → Option (List D)
  | [], [], _ => some []
  | false :: ms, .tv d :: ps, ρ => (argsD ms ps ρ).bind fun ds => some (d :: ds)
  | true :: ms, .sl i :: ps, ρ => match ρ[i]? with
    | some (some (.o d)) => (argsD ms ps ρ).bind fun ds => some (d :: ds)
    | _ => none
  | true :: ms, .ow d :: ps, ρ => (argsD ms ps ρ).bind fun ds => some (d :: ds)
  | _, _, _ => none
def ownIx : List Bool → List AR → List Nat
  | true :: ms, .sl i :: ps => i :: ownIx ms ps
  | _ :: ms, _ :: ps => ownIx ms ps
  | _, _ => []
/-- the slots of the masked names have what the def leaves -/
def putO : List Bool → List AR → List D → Rho → Option Rho
  | [], [], [], ρ => some ρ
  | false :: ms, _ :: ps, outs, ρ => putO ms ps outs ρ
  | true :: ms, .sl i :: ps, d :: outs, ρ => putO ms ps outs (ρ.set i (some (.o d)))
  | true :: ms, .ow _ :: ps, _ :: outs, ρ => putO ms ps outs ρ
  | _, _, _, _ => none
def nodupN (l : List Nat) : Bool := decide l.Nodup
def eCall (F : FnS) (fs : MAs) : ME := fun ρ => (fs ρ).bind fun r => (argsD F.mask r.1 r.2).bind fun ds => if nodupN (ownIx F.mask r.1) then (F.run ds).bind fun w => (putO F.mask r.1 w.2 r.2).bind fun ρ2 => some (w.1, ρ2) else none
end Z
namespace Z
open PySem PySem.Spec L2
open PyProof.Rows hiding St

abbrev Tr := Nat × D × Addr
def putT (ts : List Tr) (ρ : Rho) : Rho := ts.foldl (fun ρ t => ρ.set t.1 (some (.o t.2.1))) ρ
theorem putT_len : ∀ (ts : List Tr) (ρ : Rho), (putT ts ρ).length = ρ.length
  | [], _ => rfl
  | t :: ts, ρ => by
    show (putT ts (ρ.set t.1 (some (.o t.2.1)))).length = ρ.length
    rw [putT_len ts, List.length_set]
theorem putT_ne : ∀ (ts : List Tr) (ρ : Rho) (j : Nat), (∀ t ∈ ts, t.1 ≠ j) → (putT ts ρ)[j]? = ρ[j]?
  | [], _, _, _ => rfl
  | t :: ts, ρ, j, h => by
    show (putT ts (ρ.set t.1 (some (.o t.2.1))))[j]? = ρ[j]?
    rw [putT_ne ts _ j fun u hu => h u (List.mem_cons_of_mem _ hu), List.getElem?_set_ne (h t List.mem_cons_self)]
theorem putT_at : ∀ (ts : List Tr) (ρ : Rho), (ts.map (·.1)).Nodup → (∀ t ∈ ts, t.1 < ρ.length) → ∀ t ∈ ts, (putT ts ρ)[t.1]? = some (some (.o t.2.1))
  | [], _, _, _, t, h => by cases h
  | u :: ts, ρ, nd, hl, t, h => by
    show (putT ts (ρ.set u.1 (some (.o u.2.1))))[t.1]? = _
    rw [List.map_cons, List.nodup_cons] at nd
    rcases List.mem_cons.mp h with e | h
    · subst e
      rw [putT_ne ts _ _ fun v hv e => nd.1 (by rw [← e]; exact List.mem_map.mpr ⟨v, hv, rfl⟩), List.getElem?_set_self (hl _ List.mem_cons_self)]
    · exact putT_at ts _ nd.2 (fun v hv => by rw [List.length_set]; exact hl v (List.mem_cons_of_mem _ hv)) t h
section
variable {c : Cn} {E1 E2 A : AS} {ρ : Rho} {σ : L2.St} {H H' : Hp}
/-- behind a call that changed the lists at ts -/
theorem R.put {ts : List Tr} (r : R c E1 ρ σ H) (nd : (ts.map (·.1)).Nodup) (hs : ∀ t ∈ ts, (∃ d0, ρ[t.1]? = some (some (.o d0))) ∧ σ[t.1]? = some (some (.ref t.2.2)))
    (keep : ∀ b o, H b = some o → ¬ E1 b → (∀ t ∈ ts, t.2.2 ≠ b) → H' b = some o) (all : ∀ b o, H b = some o → ∃ o', H' b = some o')
    (outs : ∀ t ∈ ts, OwnAt c.K H' (fun b => OE ρ σ E1 b ∨ A b) t.2.1 t.2.2) (hA : ∀ b, A b → H b = none) (h2 : ∀ b, E2 b → E1 b ∨ A b) (eal : ∀ b, E2 b → ∃ o, H' b = some o) :
    R c E2 (putT ts ρ) σ H' ∧ OwnS (putT ts ρ) σ = OwnS ρ σ ∧ Keeps H' (fun b => OE ρ σ E1 b ∨ A b) H' (OE (putT ts ρ) σ E2) ∧ (∀ b o, H b = some o → ¬ E1 b → ¬ OwnS ρ σ b → H' b = some o) := by
  have hlt : ∀ t ∈ ts, t.1 < ρ.length := fun t ht => let ⟨⟨d0, h⟩, _⟩ := hs t ht; (List.getElem?_eq_some_iff.mp h).1
  have own' : ∀ (j : Nat) (e : D), (putT ts ρ)[j]? = some (some (.o e)) → (∃ e', ρ[j]? = some (some (.o e'))) ∧ ((∃ t ∈ ts, t.1 = j ∧ t.2.1 = e) ∨ ((∀ t ∈ ts, t.1 ≠ j) ∧ ρ[j]? = some (some (.o e)))) := fun j e q => by
    by_cases hj : ∃ t ∈ ts, t.1 = j
    · obtain ⟨t, ht, ej⟩ := hj
      subst ej
      rw [putT_at ts ρ nd hlt t ht] at q
      cases q
      exact ⟨(hs t ht).1, .inl ⟨t, ht, rfl, rfl⟩⟩
    · have hn : ∀ t ∈ ts, t.1 ≠ j := fun t ht e => hj ⟨t, ht, e⟩
      rw [putT_ne ts ρ j hn] at q
      exact ⟨⟨e, q⟩, .inr ⟨hn, q⟩⟩
  have oS : OwnS (putT ts ρ) σ = OwnS ρ σ := by
    funext b
    apply propext
    constructor
    · rintro ⟨j, e, q1, q2⟩
      obtain ⟨⟨e', q3⟩, _⟩ := own' j e q1
      exact ⟨j, e', q3, q2⟩
    · rintro ⟨j, e, q1, q2⟩
      by_cases hj : ∃ t ∈ ts, t.1 = j
      · obtain ⟨t, ht, ej⟩ := hj
        subst ej
        exact ⟨t.1, t.2.1, putT_at ts ρ nd hlt t ht, q2⟩
      · exact ⟨j, e, by rw [putT_ne ts ρ j fun t ht e => hj ⟨t, ht, e⟩]; exact q1, q2⟩
  have tS : ∀ t ∈ ts, OwnS ρ σ t.2.2 := fun t ht => let ⟨⟨d0, h⟩, h2⟩ := hs t ht; ⟨t.1, d0, h, h2⟩
  have kk : ∀ b o, H b = some o → ¬ E1 b → ¬ OwnS ρ σ b → H' b = some o := fun b o q n1 n2 => keep b o q n1 fun t ht e => n2 (e ▸ tS t ht)
  have k : Keeps H (OE ρ σ E1) H' (OE (putT ts ρ) σ E2) := fun b o q n => ⟨kk b o q (fun y => n (.inl y)) (fun y => n (.inr y)), fun y => by
    rcases y with y | y
    · rcases h2 b y with y | y
      · exact n (.inl y)
      · rw [hA b y] at q; cases q
    · rw [oS] at y; exact n (.inr y)⟩
  have k2 : Keeps H' (fun b => OE ρ σ E1 b ∨ A b) H' (OE (putT ts ρ) σ E2) := fun b o q n => ⟨q, fun y => by
    rcases y with y | y
    · rcases h2 b y with y | y
      · exact n (.inl (.inl y))
      · exact n (.inr y)
    · rw [oS] at y; exact n (.inl (.inr y))⟩
  refine ⟨⟨by rw [putT_len]; exact r.len, fun j e q => ?_, fun j e q => ?_, fun j l e f x q1 q2 g1 g2 => ?_, eal, fun b u q => let ⟨u', q'⟩ := r.al b u q; all b u' q', r.prt⟩, oS, k2, kk⟩
  · by_cases hj : ∃ t ∈ ts, t.1 = j
    · obtain ⟨t, ht, ej⟩ := hj
      subst ej
      rw [putT_at ts ρ nd hlt t ht] at q
      cases q
    · rw [putT_ne ts ρ j fun t ht e => hj ⟨t, ht, e⟩] at q
      obtain ⟨v, g1, g2⟩ := r.val j e q
      exact ⟨v, g1, g2.mono k⟩
  · obtain ⟨⟨e', q'⟩, q2⟩ := own' j e q
    obtain ⟨x, g1, g2, g3, g4⟩ := r.own j e' q'
    have nE2 : ¬ E2 x := fun y => by
      rcases h2 x y with y | y
      · exact g3 y
      · obtain ⟨u, hu⟩ := g2.there
        rw [hA x y] at hu; cases hu
    rcases q2 with ⟨t, ht, ej, ee⟩ | ⟨hn, q3⟩
    · subst ej; subst ee
      have h5 := (hs t ht).2
      rw [g1] at h5
      cases h5
      exact ⟨t.2.2, g1, (outs t ht).mono k2 (fun _ h => h), nE2, g4⟩
    · rw [q'] at q3
      cases q3
      refine ⟨x, g1, g2.mono k (fun o q => keep x o q g3 fun t ht e => hn t ht ?_), nE2, g4⟩
      obtain ⟨⟨d0, h5⟩, h6⟩ := hs t ht
      exact r.inj t.1 j d0 _ x h5 q' (by rw [← e]; exact h6) g1
  · obtain ⟨⟨e', q3⟩, _⟩ := own' j e q1
    obtain ⟨⟨f', q4⟩, _⟩ := own' l f q2
    exact r.inj j l e' f' x q3 q4 g1 g2
theorem call_args (r : R c E1 ρ σ H) : ∀ {mask : List Bool} {ps : List AR} {zs : List V} {as : List Addr} {ds outs : List D} {ρx ρ2 : Rho}, ArAt c E1 ρ σ H ps zs as → argsD mask ps ρ = some ds → putO mask ps outs ρx = some ρ2 → (ownIx mask ps).Nodup → as.Nodup → (∀ a ∈ as, E1 a) →
    ∃ (ms : List Addr) (ts : List Tr), ArgRel c.K H (OE ρ σ E1) mask ds zs ms ∧ ms.Nodup ∧ zs.length = mask.length ∧ ts.map (·.1) = ownIx mask ps ∧ ρ2 = putT ts ρx ∧
      (∀ t ∈ ts, (∃ d0, ρ[t.1]? = some (some (.o d0))) ∧ σ[t.1]? = some (some (.ref t.2.2))) ∧ (∀ a ∈ ms, (∃ t ∈ ts, t.2.2 = a) ∨ a ∈ as) ∧ (∀ H' O', Outs c.K H' O' outs ms → ∀ t ∈ ts, OwnAt c.K H' O' t.2.1 t.2.2)
  | [], ps, zs, as, ds, outs, ρx, ρ2, ha, hd, hp, _, _, _ => by
    cases ps with
    | nil =>
      cases zs with
      | nil =>
        cases as with
        | nil =>
          cases hd
          cases outs with
          | nil =>
            cases hp
            exact ⟨[], [], by unfold ArgRel; exact True.intro, List.nodup_nil, rfl, rfl, rfl, (fun t h => by cases h), (fun a h => by cases h), fun H' O' _ t h => by cases h⟩
          | cons _ _ => cases hp
        | cons _ _ => cases ha
      | cons _ _ => cases ha
    | cons p ps => cases p <;> cases hd
  | false :: mask, [], _, _, _, _, _, _, _, hd, _, _, _, _ => by cases hd
  | true :: mask, [], _, _, _, _, _, _, _, hd, _, _, _, _ => by cases hd
  | false :: mask, .sl _ :: ps, _, _, _, _, _, _, _, hd, _, _, _, _ => by cases hd
  | false :: mask, .ow _ :: ps, _, _, _, _, _, _, _, hd, _, _, _, _ => by cases hd
  | true :: mask, .tv _ :: ps, _, _, _, _, _, _, _, hd, _, _, _, _ => by cases hd
  | false :: mask, .tv d :: ps, zs, as, ds, outs, ρx, ρ2, ha, hd, hp, nd, na, hE => by
    cases zs with
    | nil => cases ha
    | cons z zs =>
      obtain ⟨ds', e1, e2⟩ := bindS hd
      cases e2
      obtain ⟨ms, ts, h1, h2, h3, h4, h5, h6, h7, h8⟩ := call_args r (ρx := ρx) ha.2 e1 hp nd na hE
      exact ⟨ms, ts, ⟨ha.1, h1⟩, h2, by simp [h3], h4, h5, h6, h7, h8⟩
  | true :: mask, .sl i :: ps, zs, as, ds, outs, ρx, ρ2, ha, hd, hp, nd, na, hE => by
    cases zs with
    | nil => cases ha
    | cons z zs =>
      unfold argsD at hd
      split at hd
      · rename_i d hd0
        obtain ⟨ds', e1, e2⟩ := bindS hd
        cases e2
        cases outs with
        | nil => cases hp
        | cons d' outs =>
          have nd' : i ∉ ownIx mask ps ∧ (ownIx mask ps).Nodup := List.nodup_cons.mp nd
          obtain ⟨ms, ts, h1, h2, h3, h4, h5, h6, h7, h8⟩ := call_args r (ρx := ρx.set i (some (.o d'))) ha.2 e1 hp nd'.2 na hE
          obtain ⟨a, g1, g2, g3, g4⟩ := r.own i d hd0
          have hz := ha.1
          rw [g1] at hz
          cases hz
          refine ⟨a :: ms, (i, d', a) :: ts, ⟨rfl, g2, h1⟩, List.nodup_cons.mpr ⟨fun m => ?_, h2⟩, by simp [h3], ?_, h5, fun t ht => ?_, fun b hb => ?_, fun H' O' ho t ht => ?_⟩
          · rcases h7 a m with ⟨t, ht, et⟩ | m
            · obtain ⟨⟨d0, q1⟩, q2⟩ := h6 t ht
              have e := r.inj t.1 i d0 d a q1 hd0 (by rw [← et]; exact q2) g1
              refine nd'.1 ?_
              rw [← h4, ← e]
              exact List.mem_map.mpr ⟨t, ht, rfl⟩
            · exact g3 (hE a m)
          · show i :: ts.map (·.1) = i :: ownIx mask ps
            rw [h4]
          · rcases List.mem_cons.mp ht with e | ht
            · subst e; exact ⟨⟨d, hd0⟩, g1⟩
            · exact h6 t ht
          · rcases List.mem_cons.mp hb with e | hb
            · exact .inl ⟨(i, d', a), List.mem_cons_self, e.symm⟩
            · rcases h7 b hb with ⟨t, ht, et⟩ | m
              · exact .inl ⟨t, List.mem_cons_of_mem _ ht, et⟩
              · exact .inr m
          · rcases List.mem_cons.mp ht with e | ht
            · subst e; exact ho.1
            · exact h8 H' O' ho.2 t ht
      · cases hd
  | true :: mask, .ow d :: ps, zs, as, ds, outs, ρx, ρ2, ha, hd, hp, nd, na, hE => by
    cases zs with
    | nil => cases ha
    | cons z zs =>
      cases as with
      | nil => cases ha
      | cons a as =>
        obtain ⟨ds', e1, e2⟩ := bindS hd
        cases e2
        cases outs with
        | nil => cases hp
        | cons d' outs =>
          have na' := List.nodup_cons.mp na
          obtain ⟨ms, ts, h1, h2, h3, h4, h5, h6, h7, h8⟩ := call_args r (ρx := ρx) ha.2.2 e1 hp nd na'.2 (fun b hb => hE b (List.mem_cons_of_mem _ hb))
          refine ⟨a :: ms, ts, ⟨ha.1, ha.2.1, h1⟩, List.nodup_cons.mpr ⟨fun m => ?_, h2⟩, by simp [h3], h4, h5, h6, fun b hb => ?_, fun H' O' ho t ht => h8 H' O' ho.2 t ht⟩
          · rcases h7 a m with ⟨t, ht, et⟩ | m
            · obtain ⟨⟨d0, q1⟩, q2⟩ := h6 t ht
              exact r.own_not ⟨t.1, d0, q1, by rw [← et]; exact q2⟩ (hE a List.mem_cons_self)
            · exact na'.1 m
          · rcases List.mem_cons.mp hb with e | hb
            · exact .inr (by rw [e]; exact List.mem_cons_self)
            · rcases h7 b hb with q | m
              · exact .inl q
              · exact .inr (List.mem_cons_of_mem _ m)
end

theorem call_read {X : Cx} {F : FnS} {fs : MAs} {σ : L2.St} {H : Hp} {Q : VK} (hq : tE X (eCall F fs) σ H Q) : tCall (spF X.K F) [] E0 (tAs X fs) σ H Q := by
  obtain ⟨c, E, ρ, rv, ρ', hK, hR, hf, q⟩ := hq
  obtain ⟨⟨ps, ρ1⟩, h1, hf⟩ := bindS hf
  obtain ⟨ds, h2, hf⟩ := bindS hf
  split at hf
  · rename_i nd
    obtain ⟨⟨rv', outs⟩, h3, hf⟩ := bindS hf
    obtain ⟨ρ2, h4, hf⟩ := bindS hf
    cases hf
    refine ⟨c, E, ρ, ps, ρ1, hK, hR, h1, fun zs as H1 ⟨s1, r1, a1, n1, nd1⟩ => ?_⟩
    have hE : ∀ a ∈ as, AddL E as a := fun a ha => .inr ha
    obtain ⟨ms, ts, g1, g2, g3, g4, g5, g6, g7, g8⟩ := call_args r1 (ρx := ρ1) a1 h2 h4 (of_decide_eq_true nd) nd1 hE
    have hms : ∀ a ∈ ms, OE ρ1 σ (AddL E as) a := fun a ha => by
      rcases g7 a ha with ⟨t, ht, et⟩ | m
      · obtain ⟨⟨d0, q1⟩, q2⟩ := g6 t ht
        exact .inr ⟨t.1, d0, q1, by rw [← et]; exact q2⟩
      · exact .inl (.inr m)
    have hE0 : ∀ a, ¬ E a ∨ ∃ o, H a = some o := fun a => Classical.byCases (fun h : E a => .inr (hR.eal a h)) .inl
    rw [← hK]
    refine ⟨OE ρ1 σ (AddL E as), ds, ms, _, outs, by rw [List.append_nil]; exact g3, h3, oe_there r1, by rw [List.append_nil]; exact g1, g2, hms, fun z H' ⟨p1, p2, p3⟩ => ?_⟩
    subst g5
    have keep : ∀ b o, H1 b = some o → ¬ AddL E as b → (∀ t ∈ ts, t.2.2 ≠ b) → H' b = some o := fun b o hb nb nt => p1 b o hb fun m => by
      rcases g7 b m with ⟨t, ht, et⟩ | m
      · exact nt t ht et
      · exact nb (.inr m)
    have stp : ∀ {ρ3 : Rho}, OwnS ρ3 σ = OwnS ρ1 σ → (∀ b o, H1 b = some o → ¬ AddL E as b → ¬ OwnS ρ1 σ b → H' b = some o) → Stp ρ σ H ρ3 σ H' := fun {ρ3} oS kk => by
      refine ⟨fun b o hb nb => ?_, fun b o hb => let ⟨o1, q1⟩ := s1.all b o hb; p2 b o1 q1, fun b o hb y => s1.own b o hb (by rw [← oS]; exact y)⟩
      have q1 := s1.keep b o hb nb
      have nO : ¬ OwnS ρ1 σ b := fun y => nb (s1.own b o hb y)
      have nas : b ∉ as := fun m => by rw [n1 b m] at hb; cases hb
      exact p1 b o q1 fun m => by
        rcases g7 b m with ⟨t, ht, et⟩ | m
        · obtain ⟨⟨d0, w1⟩, w2⟩ := g6 t ht
          exact nO ⟨t.1, d0, w1, by rw [← et]; exact w2⟩
        · exact nas m
    cases rv' with
    | v d =>
      obtain ⟨p4, p5⟩ := p3
      have ko : Keeps H' (OE ρ1 σ (AddL E as)) H' (fun b => OE ρ1 σ (AddL E as) b ∨ False) := fun b o h n => ⟨h, fun y => y.elim n id⟩
      obtain ⟨r2, oS, k2, kk⟩ := r1.put (E2 := E) (A := fun _ => False) (by rw [g4]; exact of_decide_eq_true nd) g6 keep p2 (fun t ht => (g8 _ _ p5 t ht).mono ko (fun _ h => h)) (fun _ h => h.elim) (fun b h => .inl (.inl h))
        (fun b h => let ⟨o, q1⟩ := hR.eal b h; let ⟨o1, q2⟩ := s1.all b o q1; p2 b o1 q2)
      exact q z H' ⟨stp oS kk, r2, (p4.mono ko).mono k2⟩
    | o d =>
      obtain ⟨a, rfl, n2, p4, p5⟩ := p3
      have nH : H a = none := by
        cases w : H a with
        | none => rfl
        | some u => obtain ⟨u', q'⟩ := s1.all a u w; rw [n2] at q'; cases q'
      have ko : Keeps H' (Add (OE ρ1 σ (AddL E as)) a) H' (fun b => OE ρ1 σ (AddL E as) b ∨ b = a) := fun b o h n => ⟨h, n⟩
      obtain ⟨u, hu⟩ := p4.there
      obtain ⟨r2, oS, k2, kk⟩ := r1.put (E2 := Add E a) (A := fun b => b = a) (by rw [g4]; exact of_decide_eq_true nd) g6 keep p2 (fun t ht => (g8 _ _ p5 t ht).mono ko (fun _ h => h)) (fun b h => by rw [h]; exact n2)
        (fun b h => h.elim (fun h => .inl (.inl h)) .inr) (fun b h => h.elim (fun h => let ⟨o, q1⟩ := hR.eal b h; let ⟨o1, q2⟩ := s1.all b o q1; p2 b o1 q2) fun e => ⟨u, by rw [e]; exact hu⟩)
      exact q _ H' ⟨a, rfl, stp oS kk, nH, r2, (p4.mono ko (fun _ h => h)).mono k2 (fun _ h => h)⟩
  · cases hf
end Z
namespace Z
open PySem PySem.Spec L2
open PyProof.Rows hiding St

/-! ## a def by its body -/
def prOf : Nat → List Bool → List Nat
  | _, [] => []
  | n, true :: ms => n :: prOf (n + 1) ms
  | n, false :: ms => prOf (n + 1) ms
def initR : List Bool → List D → List (Option RV)
  | true :: ms, d :: ds => some (.o d) :: initR ms ds
  | false :: ms, d :: ds => some (.v d) :: initR ms ds
  | _, _ => []
def outsOf (ρ : Rho) : List Nat → Option (List D)
  | [] => some []
  | i :: is => match ρ[i]? with
    | some (some (.o d)) => (outsOf ρ is).bind fun ds => some (d :: ds)
    | _ => none
def runF (n : Nat) (mask : List Bool) (body : SS) : List D → Option (RV × List D) := fun ds =>
  if ds.length = mask.length then (body (initR mask ds ++ List.replicate (n - mask.length) none)).bind fun r => match r.1 with
    | .rt rv => (outsOf r.2 (prOf 0 mask)).bind fun os => some (rv, os)
    | .nx => (outsOf r.2 (prOf 0 mask)).bind fun os => some (.v .none, os)
    | _ => none
  else none
theorem prOf_ge : ∀ {ms : List Bool} {n i : Nat}, i ∈ prOf n ms → n ≤ i
  | [], _, _, h => by cases h
  | true :: ms, n, i, h => by
    rcases List.mem_cons.mp h with e | h
    · rw [e]; exact Nat.le_refl _
    · exact Nat.le_trans (Nat.le_succ _) (prOf_ge h)
  | false :: ms, n, i, h => Nat.le_trans (Nat.le_succ _) (prOf_ge (ms := ms) h)
section
variable {K : PySem.W.Frag} {H : Hp} {O : AS}
theorem arg_len : ∀ {mask : List Bool} {ds : List D} {vs : List V} {as : List Addr}, ArgRel K H O mask ds vs as → ds.length = mask.length ∧ vs.length = mask.length ∧ (initR mask ds).length = mask.length
  | [], [], [], [], _ => ⟨rfl, rfl, rfl⟩
  | false :: ms, d :: ds, v :: vs, as, h => let ⟨a, b, c⟩ := arg_len h.2; ⟨by simp [a], by simp [b], by simp [initR, c]⟩
  | true :: ms, d :: ds, v :: vs, a :: as, h => let ⟨a, b, c⟩ := arg_len h.2.2; ⟨by simp [a], by simp [b], by simp [initR, c]⟩
  | [], [], [], _ :: _, h => by cases h
  | [], [], _ :: _, _, h => by cases h
  | [], _ :: _, _, _, h => by cases h
  | true :: _, [], _, _, h => by cases h
  | false :: _, [], _, _, h => by cases h
  | true :: _, _ :: _, [], _, h => by cases h
  | false :: _, _ :: _, [], _, h => by cases h
  | true :: _, _ :: _, _ :: _, [], h => by cases h
/-- what the slots hold at the entry -/
theorem arg_at : ∀ {mask : List Bool} {ds : List D} {vs : List V} {as : List Addr} (n : Nat), ArgRel K H O mask ds vs as →
    (∀ (i : Nat) (d : D), (initR mask ds)[i]? = some (some (.v d)) → ∃ v, vs[i]? = some v ∧ Rep K H O d v) ∧
    (∀ (i : Nat) (d : D), (initR mask ds)[i]? = some (some (.o d)) → ∃ a, vs[i]? = some (.ref a) ∧ OwnAt K H O d a ∧ a ∈ as ∧ n + i ∈ prOf n mask) ∧
    (∀ a ∈ as, ∃ (i : Nat) (d : D), (initR mask ds)[i]? = some (some (.o d)) ∧ vs[i]? = some (.ref a)) ∧
    (as.Nodup → ∀ (i j : Nat) (d e : D) (a : Addr), (initR mask ds)[i]? = some (some (.o d)) → (initR mask ds)[j]? = some (some (.o e)) → vs[i]? = some (.ref a) → vs[j]? = some (.ref a) → i = j) ∧
    (∃ is : List Nat, prOf n mask = is.map (n + ·) ∧ Paired (fun (i : Nat) (a : Addr) => vs[i]? = some (.ref a)) is as)
  | [], [], [], [], n, _ => ⟨(fun i d h => by simp [initR] at h), (fun i d h => by simp [initR] at h), (fun a h => by cases h), (fun _ i j d e a h => by simp [initR] at h), [], rfl, Paired.nil⟩
  | false :: ms, d :: ds, v :: vs, as, n, h => by
    obtain ⟨h1, h2, h3, h4, is, h5, h6⟩ := arg_at (n + 1) h.2
    refine ⟨fun i e q => ?_, fun i e q => ?_, fun a ha => ?_, fun nd i j e f a q1 q2 g1 g2 => ?_, is.map (· + 1), ?_, ?_⟩
    · cases i with
      | zero => simp [initR] at q; subst q; exact ⟨v, rfl, h.1⟩
      | succ i => obtain ⟨w, g1, g2⟩ := h1 i e (by simpa [initR] using q); exact ⟨w, by simpa using g1, g2⟩
    · cases i with
      | zero => simp [initR] at q
      | succ i =>
        obtain ⟨w, g1, g2, g3, g4⟩ := h2 i e (by simpa [initR] using q)
        exact ⟨w, by simpa using g1, g2, g3, by rw [show n + (i + 1) = n + 1 + i by omega]; exact g4⟩
    · obtain ⟨i, e, g1, g2⟩ := h3 a ha
      exact ⟨i + 1, e, by simpa [initR] using g1, by simpa using g2⟩
    · cases i with
      | zero => simp [initR] at q1
      | succ i =>
        cases j with
        | zero => simp [initR] at q2
        | succ j => rw [h4 nd i j e f a (by simpa [initR] using q1) (by simpa [initR] using q2) (by simpa using g1) (by simpa using g2)]
    · show prOf (n + 1) ms = _
      rw [h5, List.map_map]
      exact List.map_congr_left fun i _ => by show n + 1 + i = n + (i + 1); omega
    · clear h1 h2 h3 h4 h5 h
      induction h6 with
      | nil => exact .nil
      | cons r t ih => exact .cons (by simpa using r) ih
  | true :: ms, d :: ds, v :: vs, a :: as, n, h => by
    obtain ⟨ev, o, h⟩ := h
    obtain ⟨h1, h2, h3, h4, is, h5, h6⟩ := arg_at (n + 1) h
    subst ev
    refine ⟨fun i e q => ?_, fun i e q => ?_, fun b hb => ?_, fun nd i j e f x q1 q2 g1 g2 => ?_, 0 :: is.map (· + 1), ?_, .cons rfl ?_⟩
    · cases i with
      | zero => simp [initR] at q
      | succ i => obtain ⟨w, g1, g2⟩ := h1 i e (by simpa [initR] using q); exact ⟨w, by simpa using g1, g2⟩
    · cases i with
      | zero => simp [initR] at q; subst q; exact ⟨a, rfl, o, List.mem_cons_self, List.mem_cons_self⟩
      | succ i =>
        obtain ⟨w, g1, g2, g3, g4⟩ := h2 i e (by simpa [initR] using q)
        exact ⟨w, by simpa using g1, g2, List.mem_cons_of_mem _ g3, by rw [show n + (i + 1) = n + 1 + i by omega]; exact List.mem_cons_of_mem _ g4⟩
    · rcases List.mem_cons.mp hb with e | hb
      · exact ⟨0, d, rfl, by rw [e]; rfl⟩
      · obtain ⟨i, e, g1, g2⟩ := h3 b hb
        exact ⟨i + 1, e, by simpa [initR] using g1, by simpa using g2⟩
    · have nd' := List.nodup_cons.mp nd
      have out : ∀ (k : Nat) (u : D), (initR ms ds)[k]? = some (some (.o u)) → vs[k]? = some (.ref a) → False := fun k u w1 w2 => by
        obtain ⟨y, y1, y2, y3, _⟩ := h2 k u w1
        rw [w2] at y1
        cases y1
        exact nd'.1 y3
      cases i with
      | zero =>
        cases j with
        | zero => rfl
        | succ j =>
          have ex : x = a := by simpa using g1.symm
          subst ex
          exact (out j f (by simpa [initR] using q2) (by simpa using g2)).elim
      | succ i =>
        cases j with
        | zero =>
          have ex : x = a := by simpa using g2.symm
          subst ex
          exact (out i e (by simpa [initR] using q1) (by simpa using g1)).elim
        | succ j => rw [h4 nd'.2 i j e f x (by simpa [initR] using q1) (by simpa [initR] using q2) (by simpa using g1) (by simpa using g2)]
    · show n :: prOf (n + 1) ms = _
      rw [h5, List.map_cons, List.map_map]
      congr 1
      exact List.map_congr_left fun i _ => by show n + 1 + i = n + (i + 1); omega
    · clear h1 h2 h3 h4 h5 h
      induction h6 with
      | nil => exact .nil
      | cons r t ih => exact .cons (by simpa using r) ih
  | [], [], [], _ :: _, _, h => by cases h
  | [], [], _ :: _, _, _, h => by cases h
  | [], _ :: _, _, _, _, h => by cases h
  | true :: _, [], _, _, _, h => by cases h
  | false :: _, [], _, _, _, h => by cases h
  | true :: _, _ :: _, [], _, _, h => by cases h
  | false :: _, _ :: _, [], _, _, h => by cases h
  | true :: _, _ :: _, _ :: _, [], _, h => by cases h
end
theorem outs_at {c : Cn} {E : AS} {ρ : Rho} {σ : L2.St} {H : Hp} {O' : AS} (r : R c E ρ σ H) (k : Keeps H (OE ρ σ E) H O') : ∀ {is : List Nat} {as : List Addr} {ds : List D}, outsOf ρ is = some ds → Paired (fun (i : Nat) (a : Addr) => σ[i]? = some (some (.ref a))) is as →
    Outs c.K H O' ds as ∧ ∀ a ∈ as, OwnS ρ σ a
  | [], [], ds, h, _ => by cases h; exact ⟨by unfold Outs; exact True.intro, fun a h => by cases h⟩
  | i :: is, a :: as, ds, h, .cons p t => by
    unfold outsOf at h
    split at h
    · rename_i d hd
      obtain ⟨ds', e1, e2⟩ := bindS h
      cases e2
      obtain ⟨g1, g2⟩ := outs_at r k e1 t
      obtain ⟨x, x1, x2, _⟩ := r.own i d hd
      rw [p] at x1
      cases x1
      refine ⟨⟨x2.mono k (fun _ h => h), g1⟩, fun b hb => ?_⟩
      rcases List.mem_cons.mp hb with e | hb
      · rw [e]; exact ⟨i, d, hd, p⟩
      · exact g2 b hb
    · cases h

theorem app_get {α : Type} {l r : List α} {i : Nat} {x : α} (h : (l ++ r)[i]? = some x) : (i < l.length ∧ l[i]? = some x) ∨ x ∈ r := by
  by_cases hi : i < l.length
  · rw [List.getElem?_append_left hi] at h
    exact .inl ⟨hi, h⟩
  · rw [List.getElem?_append_right (by omega)] at h
    exact .inr (List.mem_of_getElem? h)
section
variable {P : Program} {w : World} {K : PySem.W.Frag} {mg : Str → Option Value} {base : Heap}
theorem Paired.imp' {α β : Type} {F G : α → β → Prop} {l : List α} {m : List β} (h : Paired F l m) (f : ∀ a b, F a b → G a b) : Paired G l m := Paired.mapP h f
theorem zfn {x qual : Str} {st : Stmt} {f : Addr} {fd : FuncData} {N ps : List Str} {k : Nat} {mask : List Bool} {body : SS} (F : Fun K x qual st f fd) (S : FnScope N ps (defScope st)) (hm : mask.length = ps.length) (hN : ps.length ≤ N.length)
    (hb : ∀ (cdv : Value) (A : Around) (outer : List Env) (s : Shared) (H : Hp) (E : XK), Room k (A.deeper (envOfC qual (defScope st) s.heap.objs.size f cdv)) →
      PSs (cxOf CX0 P w K mg base N qual (defScope st) f cdv A outer s H E).nox (defBody st) (tS (cxOf CX0 P w K mg base N qual (defScope st) f cdv A outer s H E).nox (prOf 0 mask) body)) :
    FnOk P w K mg base CX0 (k + 1) f fd ps (spF K ⟨mask, runF N.length mask body⟩) := by
  refine F.ok S (fun vs H Q E h => ?_) (fun cdv A outer s H vs Q E hr h => ⟨_, hb cdv A outer s H E hr, ?_⟩)
  · obtain ⟨O, ds, ms, rv, outs, h1, _⟩ := h
    exact h1.trans hm
  · obtain ⟨O, ds, ms, rv, outs, h1, h2, h3, h4, h5, h6, q⟩ := h
    have h2 : runF N.length mask body ds = some (rv, outs) := h2
    obtain ⟨l1, l2, l3⟩ := arg_len h4
    unfold runF at h2
    rw [if_pos l1] at h2
    obtain ⟨⟨out, ρ'⟩, e1, e2⟩ := bindS h2
    have l1' : vs.length = mask.length := l2
    obtain ⟨a1, a2, a3, a4, is, a5, a6⟩ := arg_at 0 h4
    have a5 : prOf 0 mask = is := by rw [a5]; simp
    have hst : L2.start N vs = vs.map some ++ List.replicate (N.length - mask.length) none := by unfold L2.start; rw [l1']
    generalize hρ : initR mask ds ++ List.replicate (N.length - mask.length) none = ρ at e1
    have getρ : ∀ (i : Nat) (rv : RV), ρ[i]? = some (some rv) → (initR mask ds)[i]? = some (some rv) ∧ i < mask.length := fun i rv q => by
      rw [← hρ] at q
      rcases app_get q with ⟨w1, w2⟩ | w2
      · exact ⟨w2, by rw [← l3]; exact w1⟩
      · exact nomatch (List.mem_replicate.mp w2).2
    have getσ : ∀ (i : Nat) (v : V), i < mask.length → ((L2.start N vs)[i]? = some (some v) ↔ vs[i]? = some v) := fun i v hi => by
      rw [hst, List.getElem?_append_left (by rw [List.length_map]; omega), List.getElem?_map]
      cases vs[i]? with
      | none => simp
      | some u => simp
    have oS : OwnS ρ (L2.start N vs) = fun b => b ∈ ms := by
      funext b
      apply propext
      constructor
      · rintro ⟨i, d, q1, q2⟩
        obtain ⟨q3, hi⟩ := getρ i _ q1
        obtain ⟨a, w1, _, w2, _⟩ := a2 i d q3
        rw [getσ i _ hi] at q2
        rw [q2] at w1
        cases w1
        exact w2
      · intro hb
        obtain ⟨i, d, q1, q2⟩ := a3 b hb
        have hi : i < mask.length := by rw [← l3]; exact (List.getElem?_eq_some_iff.mp q1).1
        refine ⟨i, d, ?_, (getσ i _ hi).mpr q2⟩
        rw [← hρ, List.getElem?_append_left (by rw [l3]; exact hi)]
        exact q1
    have oE : OE ρ (L2.start N vs) (fun b => O b ∧ b ∉ ms) = O := by
      funext b
      apply propext
      unfold OE
      rw [oS]
      constructor
      · rintro (h | h)
        · exact h.1
        · exact h6 b h
      · intro h
        by_cases hb : b ∈ ms
        · exact .inr hb
        · exact .inl ⟨h, hb⟩
    have hR : R ⟨K, H, L2.start N vs, prOf 0 mask⟩ (fun b => O b ∧ b ∉ ms) ρ (L2.start N vs) H := by
      refine ⟨?_, fun i d q => ?_, fun i d q => ?_, fun i j d e a q1 q2 g1 g2 => ?_, fun b h => h3 b h.1, fun b o h => ⟨o, h⟩, fun i _ => rfl⟩
      · rw [← hρ, hst, List.length_append, List.length_append, l3, List.length_map, l1']
        simp
      · obtain ⟨q1, hi⟩ := getρ i _ q
        obtain ⟨v, w1, w2⟩ := a1 i d q1
        rw [oE]
        exact ⟨v, (getσ i _ hi).mpr w1, w2⟩
      · obtain ⟨q1, hi⟩ := getρ i _ q
        obtain ⟨a, w1, w2, w3, w4⟩ := a2 i d q1
        rw [oE]
        exact ⟨a, (getσ i _ hi).mpr w1, w2, fun z => z.2 w3, .inr ⟨i, by rw [Nat.zero_add] at w4; exact w4, (getσ i _ hi).mpr w1⟩⟩
      · obtain ⟨q3, hi⟩ := getρ i _ q1
        obtain ⟨q4, hj⟩ := getρ j _ q2
        exact a4 h5 i j d e a q3 q4 ((getσ i _ hi).mp g1) ((getσ j _ hj).mp g2)
    have pairs : ∀ σ' : L2.St, (∀ i ∈ prOf 0 mask, σ'[i]? = (L2.start N vs)[i]?) → Paired (fun (i : Nat) (a : Addr) => σ'[i]? = some (some (.ref a))) (prOf 0 mask) ms := fun σ' hs => by
      rw [a5] at hs ⊢
      have lt : ∀ i ∈ is, i < mask.length := fun i hi => by
        have hi' : i ∈ prOf 0 mask := by rw [a5]; exact hi
        clear hs
        have gen : ∀ (ms : List Bool) (n : Nat), i ∈ prOf n ms → i < n + ms.length := by
          intro ms
          induction ms with
          | nil => intro n h; cases h
          | cons b ms ih =>
            intro n h
            cases b with
            | true =>
              rcases List.mem_cons.mp h with e | h
              · rw [e, List.length_cons]; omega
              · have := ih (n + 1) h; rw [List.length_cons]; omega
            | false => have := ih (n + 1) h; rw [List.length_cons]; omega
        have := gen mask 0 hi'
        omega
      have gen2 : ∀ {is' : List Nat} {ms' : List Addr}, Paired (fun (i : Nat) (a : Addr) => vs[i]? = some (.ref a)) is' ms' → (∀ i ∈ is', σ'[i]? = (L2.start N vs)[i]?) → (∀ i ∈ is', i < mask.length) → Paired (fun (i : Nat) (a : Addr) => σ'[i]? = some (some (.ref a))) is' ms' := by
        intro is' ms' hp hs lt
        induction hp with
        | nil => exact .nil
        | cons r t ih =>
          refine .cons ?_ (ih (fun i hi => hs i (List.mem_cons_of_mem _ hi)) fun i hi => lt i (List.mem_cons_of_mem _ hi))
          rw [hs _ List.mem_cons_self]
          exact (getσ _ _ (lt _ List.mem_cons_self)).mpr r
      exact gen2 (by simpa using a6) hs lt
    have fin : ∀ (E' : AS) (σ' : L2.St) (H' : Hp), Stp ρ (L2.start N vs) H ρ' σ' H' → R ⟨K, H, L2.start N vs, prOf 0 mask⟩ E' ρ' σ' H' → outsOf ρ' (prOf 0 mask) = some outs → ∀ A : AS, (∀ b, (O b ∨ A b) → ((O b ∧ b ∉ ms) ∨ A b) → E' b) →
        Outs K H' (fun b => O b ∨ A b) outs ms ∧ Keeps H' (OE ρ' σ' E') H' (fun b => O b ∨ A b) := fun E' σ' H' s1 r1 ho A hA => by
      have own : ∀ a ∈ ms, OwnS ρ' σ' a := (outs_at r1 (O' := OE ρ' σ' E') Keeps.rfl ho (pairs σ' r1.prt)).2
      have kk : Keeps H' (OE ρ' σ' E') H' (fun b => O b ∨ A b) := fun b o hb nb => ⟨hb, fun y => by
        by_cases hm : b ∈ ms
        · exact nb (.inr (own b hm))
        · refine nb (.inl (hA b y ?_))
          rcases y with y | y
          · exact .inl ⟨y, hm⟩
          · exact .inr y⟩
      exact ⟨(outs_at r1 kk ho (pairs σ' r1.prt)).1, kk⟩
    have keep : ∀ (σ' : L2.St) (H' : Hp), Stp ρ (L2.start N vs) H ρ' σ' H' → ∀ b o, H b = some o → b ∉ ms → H' b = some o := fun σ' H' s1 b o hb nb => s1.keep b o hb (by rw [oS]; exact nb)
    have noA : (fun b => O b ∨ False) = O := by funext b; simp
    refine ⟨⟨K, H, L2.start N vs, prOf 0 mask⟩, _, ρ, out, ρ', rfl, rfl, hR, e1, ?_⟩
    cases out with
    | bk => cases e2
    | ct => cases e2
    | nx =>
      obtain ⟨os, e3, e4⟩ := bindS e2
      cases e4
      intro σ' H' p
      have f := fin _ σ' H' p.1 p.2 e3 (fun _ => False) (fun b _ h => h.elim id False.elim)
      rw [noA] at f
      exact q .non H' ⟨keep σ' H' p.1, p.1.all, .non, f.1⟩
    | rt rv' =>
      obtain ⟨os, e3, e4⟩ := bindS e2
      cases e4
      intro z σ' H' p
      cases rv with
      | v d =>
        obtain ⟨p1, p2⟩ := p
        have f := fin _ σ' H' p1.1 p1.2 e3 (fun _ => False) (fun b _ h => h.elim id False.elim)
        rw [noA] at f
        exact q z H' ⟨keep σ' H' p1.1, p1.1.all, p2.mono f.2, f.1⟩
      | o d =>
        obtain ⟨a, rfl, s1, n0, r1, o1⟩ := p
        have f := fin _ σ' H' s1 r1 e3 (fun b => b = a) (fun b _ h => h)
        exact q _ H' ⟨keep σ' H' s1, s1.all, a, rfl, n0, o1.mono f.2 (fun _ h => h), f.1⟩
end
end Z
/-! ## enumerate over a tuple, ahead of the hand layer -/
namespace EnT
open PySem PySem.Spec
open PySem.Sem (wp)
open AutoSeq1 (wpAny_loadPart')
open PyProof.Rows hiding St

/-- the iterator of a tuple that an enumerate holds, just made -/
abbrev tIt (l : Addr) : Obj := { cls := .type "tuple_iterator", data := .fields #[.ref l, .int 0 0] }
abbrev eOb (it : Addr) : Obj := { cls := .type "enumerate", data := .fields #[.none, .bool false, .ref it, rawInt 0, .none, .none] }
theorem new_meets (l : Addr) (items : Array Value) (n : Nat) (dc : Option Addr) (sl : Array (Option Value)) :
    Meets (Builtin.«enumerate.__new__» ⟨[.type "enumerate", .ref l], []⟩) (fun _ R s =>
      s.heap.get? l = some { cls := .type "tuple", dict := dc, data := .seq items n, slots := sl } ∧ R (.ok (.ret (.ref (s.heap.push (tIt l)).objs.size))) { s with heap := (s.heap.push (tIt l)).push (eOb s.heap.objs.size) }) := by
  refine .of_wp fun prog w A R s h => ?_
  obtain ⟨hp, g, d, tk, os⟩ := s
  obtain ⟨hl, h⟩ := h
  have hsub := sub_enumerate
  have hT : Heap.IsTuple (Shared.heap ⟨hp, g, d, tk, os⟩) l items := ⟨_, hl, rfl, n, rfl⟩
  wp_walk using wpAny_loadPart' hl
  refine wpAny_stack_any fun st => wpAny_pure ?_
  split
  · rename_i c _ _ _ _ _
    cases (c == Value.type "enumerate") <;> (wp_walk using wpAny_loadPart' hl, wpAny_pyIter_tuple hT; exact ⟨_, rfl, h⟩)
  · wp_walk using wpAny_loadPart' hl, wpAny_pyIter_tuple hT
    exact ⟨_, rfl, h⟩
section
variable {prog : Program} {w : World} {A : Around} {E : Value → Shared → Prop} {s : Shared}
theorem call_en {l : Addr} {items : Array Value} {Q : Value → Shared → Prop} (hL : s.heap.IsTuple l items)
    (h : ∀ h', IsEnum h' (s.heap.objs.size + 1) s.heap.objs.size 0 .none → h'.IsTupleIter s.heap.objs.size l 0 → (∀ b o, s.heap.get? b = some o → h'.get? b = some o) → Q (.ref (s.heap.objs.size + 1)) { s with heap := h' }) :
    wpAny (model prog w) A (call (.type "enumerate") [.ref l]) Q E s := by
  obtain ⟨⟨c, dc, dt, sl⟩, hl, hc, n, hd⟩ := hL
  cases (show c = .type "tuple" from hc)
  cases (show dt = .seq items n from hd)
  have hz : (s.heap.push (tIt l)).objs.size = s.heap.objs.size + 1 := Heap.size_push ..
  have he : IsEnum ((s.heap.push (tIt l)).push (eOb s.heap.objs.size)) (s.heap.objs.size + 1) s.heap.objs.size 0 .none := by
    have q := Heap.get?_push_size (s.heap.push (tIt l)) (o := eOb s.heap.objs.size) rfl
    rw [hz] at q; exact q
  refine callType_new F.called_enumerate (by decide) (F.typeCall_enumerate_1 _) (F.newCall_enumerate_1 _) (fun o => F.args_object_init_2 o _) F.entry_enumerate_new (new_meets l items n dc sl) ⟨hl, ?_⟩
  show _ ∧ _
  rw [hz]
  exact ⟨⟨_, he, rfl⟩, h _ he ⟨_, Heap.get?_push_of_some _ (Heap.get?_push_size _ rfl), rfl, rfl⟩ fun b o x => Heap.get?_push_of_some _ (Heap.get?_push_of_some _ x)⟩
theorem next_item {e it l : Addr} {i : Nat} {items : Array Value} {x old : Value} {Q : Option Value → Shared → Prop}
    (he : IsEnum s.heap e it i old) (hit : s.heap.IsTupleIter it l i) (hl : s.heap.IsTuple l items) (hx : items[i]? = some x) (hne : e ≠ it)
    (hQ : ∀ h', IsEnumOut h' e it ((i : Int) + 1) x s.heap.objs.size → h'.IsTupleIter it l (i + 1) → h'.get? s.heap.objs.size = some { cls := .type "tuple", data := .seq #[.int i s.toks, x] } →
      (∀ b o, b ≠ e → b ≠ it → s.heap.get? b = some o → h'.get? b = some o) → Q (some (.ref s.heap.objs.size)) { s with heap := h', toks := s.toks + 1 }) :
    wpAny (model prog w) A (pyNext (.ref e)) Q E s := by
  have hT : s.TypeIs (.ref e) "enumerate" := ⟨_, he, rfl⟩
  have ne := Ne.symm hne
  unfold pyNext
  refine wpAny_bind (wpAny_attempt (wpAny_callSpecial?_slot (name := Str.ofString "__next__") hT F.slot_enumerate_next (wpAny_call_entry F.slot_enumerate_next hT F.entry_enumerate_next ?_ (F.args_enumerate_next_1 _))))
  obtain ⟨hp, g, d, tk, os⟩ := s
  show wpAny _ _ (field (.ref e) 2 >>= _) _ _ _
  refine wpAny_bind (wpAny_field he rfl (x := .ref it) rfl (wpAny_bind (RZ.nextOf_tuple_item hit hl hx fun h1 hit1 (s1 : Heap.SameBut it hp h1) => ?_)))
  have he1 : IsEnum h1 e it i old := (s1.2 e hne).trans he
  show wpAny _ _ (field (.ref e) 3 >>= _) _ _ ⟨h1, g, d, tk, os⟩
  refine wpAny_bind (wpAny_field he1 rfl (x := rawInt i) rfl ?_)
  show wpAny _ _ (field (.ref e) 4 >>= _) _ _ ⟨h1, g, d, tk, os⟩
  refine wpAny_bind (wpAny_field he1 rfl (x := .none) rfl ?_)
  show wpAny _ _ (mkInt i >>= _) _ _ ⟨h1, g, d, tk, os⟩
  refine wpAny_bind (wpAny_mkInt ?_)
  show wpAny _ _ (setField (.ref e) 3 (rawInt ((i : Int) + 1)) >>= _) _ _ ⟨h1, g, d, tk + 1, os⟩
  refine wpAny_bind (wpAny_setField_rec he1 (by simp) fun h2 (he2 : IsEnum h2 e it ((i : Int) + 1) old) (s2 : Heap.SameBut e h1 h2) => ?_)
  show wpAny _ _ (setField (.ref e) 4 .none >>= _) _ _ ⟨h2, g, d, tk + 1, os⟩
  refine wpAny_bind (wpAny_setField_rec he2 (by simp) fun h3 (he3 : IsEnum h3 e it ((i : Int) + 1) old) (s3 : Heap.SameBut e h2 h3) => ?_)
  show wpAny _ _ (newTuple [.int i tk, x] >>= _) _ _ ⟨h3, g, d, tk + 1, os⟩
  refine wpAny_bind (wpAny_newTuple ?_)
  have hsz : h3.objs.size = hp.objs.size := by rw [s3.1, s2.1, s1.1]
  have hel : e < hp.objs.size := Heap.lt_size he
  obtain ⟨h4, hh⟩ : ∃ h4, h4 = h3.push { cls := .type "tuple", data := .seq #[.int i tk, x] } := ⟨_, rfl⟩
  have he4 : IsEnum h4 e it ((i : Int) + 1) old := by rw [hh]; exact Heap.get?_push_of_some _ he3
  have t4 : h4.get? hp.objs.size = some { cls := .type "tuple", data := .seq #[.int i tk, x] } := by rw [hh, ← hsz]; exact Heap.get?_push_size _ rfl
  have k4 : ∀ b o, b ≠ e → b ≠ it → hp.get? b = some o → h4.get? b = some o := fun b o be bi q => by
    rw [hh]; exact Heap.get?_push_of_some _ (s3.extBut b o be (s2.extBut b o be (s1.extBut b o bi q)))
  have it4 : h4.IsTupleIter it l (i + 1) := by
    rw [hh]
    obtain ⟨o, q, r⟩ := (hit1.extBut s2.extBut ne).extBut s3.extBut ne
    exact ⟨o, Heap.get?_push_of_some _ q, r⟩
  show wpAny _ _ (Builtin.SmallTypes.ownedTupleIsFree (.ref e) >>= _) _ _ ⟨h3.push { cls := .type "tuple", data := .seq #[.int i tk, x] }, g, d, tk + 1, os⟩
  rw [← hh, hsz]
  clear hh he3 s3 he2 s2 he1 s1 hit1 hsz
  refine wpAny_bind ?_
  unfold Builtin.SmallTypes.ownedTupleIsFree
  refine wpAny_bind (wpAny_field he4 rfl (x := .none) rfl (wpAny_pure ?_))
  simp only [if_true]
  refine wpAny_bind (wpAny_rule (wpAny_bind (wpAny_field he4 rfl (x := old) rfl ?_)))
  refine wpAny_bind (wpAny_setField_rec he4 (by simp) fun h5 (he5 : IsEnum h5 e it ((i : Int) + 1) x) (s5 : Heap.SameBut e h4 h5) => ?_)
  show wpAny _ _ (Builtin.SmallTypes.ownedTupleHandOut (.ref e) (.ref hp.objs.size) >>= _) _ _ ⟨h5, g, d, tk + 1, os⟩
  refine wpAny_bind ?_
  unfold Builtin.SmallTypes.ownedTupleHandOut
  refine wpAny_bind (wpAny_setField_rec he5 (by simp) fun h6 (he6 : IsEnumOut h6 e it ((i : Int) + 1) x hp.objs.size) (s6 : Heap.SameBut e h5 h6) => ?_)
  refine wpAny_setField_rec he6 (by simp) fun h7 (he7 : IsEnumOut h7 e it ((i : Int) + 1) x hp.objs.size) (s7 : Heap.SameBut e h6 h7) => ?_
  have up : ∀ b o, b ≠ e → h4.get? b = some o → h7.get? b = some o := fun b o be q => s7.extBut b o be (s6.extBut b o be (s5.extBut b o be q))
  exact wpAny_bind (wpAny_letGo (wpAny_pure ⟨_, rfl, wpAny_pure (hQ h7 he7 (it4.at fun o q => up it o ne q) (up _ _ (Nat.ne_of_gt hel) t4) fun b o be bi q => up b o be (k4 b o be bi q))⟩))
theorem next_end {e it l : Addr} {i : Nat} {items : Array Value} {old : Value} {Q : Option Value → Shared → Prop} (hh : A.handled = none)
    (he : IsEnum s.heap e it i old) (hit : s.heap.IsTupleIter it l i) (hl : s.heap.IsTuple l items) (hx : items[i]? = none)
    (hQ : ∀ h', Heap.ExtBut it s.heap h' → Q none { s with heap := h' }) : wpAny (model prog w) A (pyNext (.ref e)) Q E s := by
  have hT : s.TypeIs (.ref e) "enumerate" := ⟨_, he, rfl⟩
  unfold pyNext
  refine wpAny_bind (wpAny_attempt (wpAny_callSpecial?_slot (name := Str.ofString "__next__") hT F.slot_enumerate_next (wpAny_call_entry F.slot_enumerate_next hT F.entry_enumerate_next ?_ (F.args_enumerate_next_1 _))))
  show wpAny _ _ (field (.ref e) 2 >>= _) _ _ _
  refine wpAny_bind (wpAny_field he rfl (x := .ref it) rfl (wpAny_bind (RZ.nextOf_tuple_end hh hit hl hx fun h' y k hy => ?_)))
  obtain ⟨o, ho, hc⟩ := hy
  exact wpAny_bind (wpAny_isInstance (T := "StopIteration") (b := true) ⟨o, ho, hc⟩ isSubtype_stop (wpAny_pure (hQ _ k)))
end
end EnT
namespace EnT
open PySem PySem.Spec L2
open PyProof.Rows hiding St
/-- the tuple at a, each item in a new pair -/
def IteT (K : PySem.W.Frag) (a : Addr) : It :=
  ⟨fun i H => ∃ (xs : List V) (x : V), SqT K H a xs ∧ xs[i]? = some x, fun i H v H' => ∃ T x, v = .ref T ∧ H T = none ∧ H' = upd H T (.tup [.int (i : Nat), x]) ∧ ∀ xs, SqT K H a xs → xs[i]? = some x, fun i H => ∃ xs : List V, SqT K H a xs ∧ xs.length ≤ i⟩
theorem turn_enT {P : Program} {w : World} {K : PySem.W.Frag} {elts : List Expr} {kk : Nat} {tpos : Pos} (a e it : Addr) :
    Turn P w K (.Tuple elts kk tpos) (IteT K a) [e, it] e (fun i h => (∃ old, IsEnum h e it ((i : Nat) : Int) old) ∧ h.IsTupleIter it a i ∧ e ≠ it) where
  mem := by simp
  obj := fun i h ⟨⟨_, he⟩, ⟨o, ho, _, hd⟩, _⟩ b hb => by
    rcases (show b = e ∨ b = it by simpa using hb) with rfl | rfl
    · exact ⟨_, he, fun v q => nomatch q⟩
    · exact ⟨o, ho, fun v q => by rw [hd] at q; cases q⟩
  keep := fun i h h' ⟨⟨old, he⟩, hi, hne⟩ k => ⟨⟨old, k e (by simp) _ he⟩, hi.at fun o q => k it (by simp) o q, hne⟩
  item := by
    intro X hP hw hK hc i pins s σ H E I hf ⟨⟨old, he⟩, hit, hne⟩ ⟨xs, x, hq, hx⟩
    subst hP hw hK
    obtain ⟨its, rv, p, hz⟩ := I.tuple hq
    obtain ⟨u, hu, ru⟩ := rv.get hx
    have hel : e < s.heap.objs.size := Heap.lt_size he
    have hil : it < s.heap.objs.size := by obtain ⟨_, q, _⟩ := hit; exact Heap.lt_size q
    refine next_item he hit (show s.heap.IsTuple a its.toArray from p) (x := u) (by simpa using hu) hne fun h' ho hit' hT hk => ?_
    refine ⟨_, rfl, wpAny_letOwnedTupleGo_enum (s := { s with heap := h', toks := s.toks + 1 }) ho fun h2 he' sb => ?_⟩
    have hT2 : h2.get? s.heap.objs.size = some { cls := .type "tuple", data := .seq #[.int i s.toks, u] } := (sb.2 _ (Nat.ne_of_gt hel)).trans hT
    have I1 : Inv X pins σ (upd H s.heap.objs.size (.tup [.int (i : Nat), x])) { s with heap := h2, toks := s.toks + 1 } :=
      I.turnedNew (ch := [e, it]) (fun b ob hb q => (sb.2 b (fun z => hb (by simp [z]))).trans (hk b ob (fun z => hb (by simp [z])) (fun z => hb (by simp [z])) q)) hf (Nat.le_refl _)
        ⟨by show 2 ≤ sizeLine; decide, [.int i s.toks, u], .cons ⟨_, rfl⟩ (.cons ru .nil), ⟨_, hT2, rfl, _, rfl⟩⟩
    refine ⟨.ref s.heap.objs.size, _, I1, rfl, ⟨_, x, rfl, I.hok.fresh (Nat.le_refl _), rfl, fun ys hy => by rw [I.tuple_inj hy hq]; exact hx⟩, ⟨⟨u, ?_⟩, hit'.at fun o q => (sb.2 it (Ne.symm hne)).trans q, hne⟩, fun b hb => ?_⟩
    · rw [show ((i + 1 : Nat) : Int) = (i : Int) + 1 by omega]; exact he'
    · have hb' : b < s.heap.objs.size := by
        rcases (show b = e ∨ b = it by simpa using hb) with z | z
        · rw [z]; exact hel
        · rw [z]; exact hil
      rw [upd_ne (Nat.ne_of_lt hb')]
      exact (hf b hb).1
  done := by
    intro X hP hw hK hc i pins s σ H E I hf ⟨⟨old, he⟩, hit, hne⟩ ⟨xs, hq, hx⟩
    subst hP hw hK
    obtain ⟨its, rv, p, hz⟩ := I.tuple hq
    obtain ⟨f0, f1, f2, f3, f4, f5⟩ := hf it (by simp)
    have hl := rv.length
    exact next_end (I.ok.hd hc) he hit (show s.heap.IsTuple a its.toArray from p) (by simp; omega) fun h' eb => ⟨rfl, I.turned (t' := s.toks) (fun b o hb q => eb b o hb q) f0 f1 f3 f4 f5⟩
  self := fun A i s Q E ⟨⟨_, he⟩, _⟩ h => wpAny_pyIter_enum he h
/-- enumerate over a list or a tuple -/
def iEnA (K : PySem.W.Frag) (ta : TA) : TI := fun σ H R => ta σ H fun vs H1 => ∃ a xs, vs = [.ref a] ∧ ((SqL K H1 a xs ∧ R (Ite K a) H1) ∨ (SqT K H1 a xs ∧ R (IteT K a) H1))
theorem pi_enA {X : Cx} {e : Expr} {ta : TA} {p pos tpos : Pos} {elts : List Expr} {kk : Nat} (hg : Gl X "enumerate") (hm : X.mg "enumerate" = none) (ha : PA X [e] ta) (hs : starEach [e] X.env = [(false, eval e X.env)]) :
    PI X (.Tuple elts kk tpos) (.Call (.Name "enumerate" p) [e] [] pos) (iEnA X.K ta) := by
  refine ⟨fun pins s σ H R I h => ?_⟩
  refine Call_ (ld_blt I hg hm boot_enumerate (PyProof.Rows.callWith_type1 (thn (ha.run pos pins s σ H _ I h) fun us s1 ⟨vs, H1, I1, r1, a, xs, ex, q1⟩ => ?_) hs rfl))
  subst ex
  cases r1 with
  | cons r rr =>
    cases rr
    cases r
    have fp : ∀ h' : Heap, (∀ b o, s1.heap.get? b = some o → h'.get? b = some o) → ∀ b ∈ [s1.heap.objs.size + 1, s1.heap.objs.size], s1.heap.objs.size ≤ b := fun h' hk b hb => by
      rcases (show b = s1.heap.objs.size + 1 ∨ b = s1.heap.objs.size by simpa using hb) with z | z
      · rw [z]; exact Nat.le_add_right _ _
      · rw [z]; exact Nat.le_refl _
    rcases q1 with ⟨hq, q⟩ | ⟨hq, q⟩
    · obtain ⟨its, rv, p', hz⟩ := I1.list hq
      refine call_enumerate_list p'.isList fun h' he hit hsz hk => wpAny_pyIter_enum he ?_
      have I2 : Inv X pins σ H1 { s1 with heap := h' } := I1.kept (t' := s1.toks) hk
      exact ⟨s1.heap.objs.size + 1, [s1.heap.objs.size + 1, s1.heap.objs.size], _, _, H1, rfl, I2, turn_enum a (s1.heap.objs.size + 1) s1.heap.objs.size, ⟨⟨.none, he⟩, hit, Nat.succ_ne_self _⟩, fun b hb => I1.fpOk (fp h' hk b hb) (I1.hok.fresh (fp h' hk b hb)), q⟩
    · obtain ⟨its, rv, p', hz⟩ := I1.tuple hq
      refine call_en (show s1.heap.IsTuple a its.toArray from p') fun h' he hit hk => wpAny_pyIter_enum he ?_
      have I2 : Inv X pins σ H1 { s1 with heap := h' } := I1.kept (t' := s1.toks) hk
      exact ⟨s1.heap.objs.size + 1, [s1.heap.objs.size + 1, s1.heap.objs.size], _, _, H1, rfl, I2, turn_enT a (s1.heap.objs.size + 1) s1.heap.objs.size, ⟨⟨.none, he⟩, hit, Nat.succ_ne_self _⟩, fun b hb => I1.fpOk (fp h' hk b hb) (I1.hok.fresh (fp h' hk b hb)), q⟩
end EnT
namespace Z
open PySem PySem.Spec L2
open PyProof.Rows hiding St

/-! ## walks -/
structure WalkD (K : PySem.W.Frag) (J : It) (ds : List D) (Gd : Hp → AS → Prop) : Prop where
  goes : ∀ i H O, i < ds.length → Gd H O → J.go i H
  stops : ∀ H O, Gd H O → J.stop ds.length H
  yields : ∀ i H O x H' d, ds[i]? = some d → Gd H O → (∀ b, O b → ∃ o, H b = some o) → J.yld i H x H' → Grow H H' ∧ Rep K H' O d x
  keeps : ∀ H O H' O', Gd H O → Keeps H O H' O' → Gd H' O'
abbrev MIt := Rho → Option (List D × Rho)
def tIt (X : Cx) (f : MIt) : TI := fun σ H Rr => ∃ c E ρ ds ρ', c.K = X.K ∧ R c E ρ σ H ∧ f ρ = some (ds, ρ') ∧
  ∀ J Gd H', PostN c E ρ σ H ρ' σ H' → WalkD c.K J ds Gd → Gd H' (OE ρ' σ E) → Rr J H'
def signs (s : Str) : List D := s.cps.toList.map fun c => .str ⟨#[c]⟩
def keysD (ds : List (D × D)) : List D := ds.map (·.1)
/-- a list, a tuple, a text; a dict that was just made -/
def iSeq (f : ME) : MIt := fun ρ => (f ρ).bind fun r => match r.1 with
  | .v (.list ds) => some (ds, r.2)
  | .v (.tuple ds) => some (ds, r.2)
  | .v (.str s) => some (signs s, r.2)
  | .o (.list ds) => some (ds, r.2)
  | .o (.dict ds) => some (keysD ds, r.2)
  | _ => none
def in62 (i : Int) : Bool := decide (i.natAbs < 4611686018427387904)
def upTo (lo : Int) (n : Nat) : List D := (List.range n).map fun (i : Nat) => .int (lo + i)
def downFrom (hi : Int) (n : Nat) : List D := (List.range n).map fun (i : Nat) => .int (hi + i * (-1))
def rngD : List D → Option (List D)
  | [.int j] => if in62 j then some (upTo 0 j.toNat) else none
  | [.int i, .int j] => if in62 i && in62 j then some (upTo i (j - i).toNat) else none
  | [.int i, .int j, .int c] => if in62 i && in62 j && decide (c = -1) then some (downFrom i (i - j).toNat) else none
  | _ => none
def enumD (ds : List D) : List D := ds.mapIdx fun i d => .tuple [.int i, d]
def enuD : List D → Option (List D)
  | [.list ds] => some (enumD ds)
  | [.tuple ds] => some (enumD ds)
  | _ => none
def zipD : List D → List D → List D
  | x :: xs, y :: ys => .tuple [x, y] :: zipD xs ys
  | _, _ => []
def zpD : List D → Option (List D)
  | [.list ds, .list es] => some (zipD ds es)
  | [.tuple ds, .tuple es] => some (zipD ds es)
  | _ => none
/-- a walk of what a built-in makes of its arguments -/
def iFn (fi : List D → Option (List D)) (fs : MOs) : MIt := fun ρ => (fs ρ).bind fun r => (tvs r.1).bind fun xs => (fi xs).bind fun ds => some (ds, r.2)

section
variable {K : PySem.W.Frag} {a b : Addr} {ds es : List D}
theorem wd_list : WalkD K (Itl K a) ds (fun H O => ∃ vs, LA K H O a vs ∧ Reps K H O ds vs) :=
  ⟨fun i H O hi ⟨vs, l, r⟩ => ⟨vs, vs[i]'(by rw [← r.length]; exact hi), l.sq, List.getElem?_eq_getElem _⟩,
   fun H O ⟨vs, l, r⟩ => ⟨vs, l.sq, by rw [r.length]; exact Nat.le_refl _⟩,
   fun i H O x H' d hd ⟨vs, l, r⟩ _ y => by
    obtain ⟨e, y⟩ := y
    subst e
    obtain ⟨v, h1, h2⟩ := r.get hd
    have := y vs l.sq
    rw [h1] at this; cases this
    exact ⟨Grow.rfl, h2⟩,
   fun H O H' O' ⟨vs, l, r⟩ k => ⟨vs, l.mono k, r.mono k⟩⟩
theorem wd_tup : WalkD K (Itt K a) ds (fun H O => ∃ vs, TAt K H O a vs ∧ Reps K H O ds vs) :=
  ⟨fun i H O hi ⟨vs, l, r⟩ => ⟨vs, vs[i]'(by rw [← r.length]; exact hi), l.sq, List.getElem?_eq_getElem _⟩,
   fun H O ⟨vs, l, r⟩ => ⟨vs, l.sq, by rw [r.length]; exact Nat.le_refl _⟩,
   fun i H O x H' d hd ⟨vs, l, r⟩ _ y => by
    obtain ⟨e, y⟩ := y
    subst e
    obtain ⟨v, h1, h2⟩ := r.get hd
    have := y vs l.sq
    rw [h1] at this; cases this
    exact ⟨Grow.rfl, h2⟩,
   fun H O H' O' ⟨vs, l, r⟩ k => ⟨vs, l.mono k, r.mono k⟩⟩
theorem wd_str {z : Str} (hz : PyData.strOk z = true) : WalkD K (Its z) (signs z) (fun _ _ => True) :=
  ⟨fun i H O hi _ => by show i < z.cps.size; simpa [signs] using hi, fun H O _ => by show z.cps.size ≤ (signs z).length; simp [signs],
   fun i H O x H' d hd _ _ y => by
    obtain ⟨e, c, h1, h2⟩ := y
    subst e
    have hc : z.cps.toList[i]? = some c := by rw [Array.getElem?_toList]; exact h1
    have e2 : (signs z)[i]? = some (.str ⟨#[c]⟩) := by unfold signs; rw [List.getElem?_map, hc]; rfl
    rw [hd] at e2; cases e2
    subst h2
    exact ⟨Grow.rfl, .str _ (strOk_one hz (List.mem_of_getElem? hc))⟩,
   fun _ _ _ _ _ _ => True.intro⟩
theorem wd_range {lo : Int} {n : Nat} : WalkD K (Itr lo n) (upTo lo n) (fun _ _ => True) :=
  ⟨fun i H O hi _ => by show i < n; simpa [upTo] using hi, fun H O _ => by show n ≤ (upTo lo n).length; simp [upTo],
   fun i H O x H' d hd _ _ y => by
    obtain ⟨e, h2⟩ := y
    subst e; subst h2
    have hi : i < n := by have := (List.getElem?_eq_some_iff.mp hd).1; simpa [upTo] using this
    have e2 : (upTo lo n)[i]? = some (.int (lo + i)) := by unfold upTo; rw [List.getElem?_map, List.getElem?_range hi]; rfl
    rw [hd] at e2; cases e2
    exact ⟨Grow.rfl, .int _⟩,
   fun _ _ _ _ _ _ => True.intro⟩
theorem wd_down {hi : Int} {n : Nat} : WalkD K (Itc hi (-1) n) (downFrom hi n) (fun _ _ => True) :=
  ⟨fun i H O h _ => by show i < n; simpa [downFrom] using h, fun H O _ => by show n ≤ (downFrom hi n).length; simp [downFrom],
   fun i H O x H' d hd _ _ y => by
    obtain ⟨e, h2⟩ := y
    subst e; subst h2
    have h : i < n := by have := (List.getElem?_eq_some_iff.mp hd).1; simpa [downFrom] using this
    have e2 : (downFrom hi n)[i]? = some (.int (hi + i * (-1))) := by unfold downFrom; rw [List.getElem?_map, List.getElem?_range h]; rfl
    rw [hd] at e2; cases e2
    exact ⟨Grow.rfl, .int _⟩,
   fun _ _ _ _ _ _ => True.intro⟩
theorem pair_res {H : Hp} {O : AS} {T : Addr} {d e : D} {x y : V} (hO : ∀ b, O b → ∃ o, H b = some o) (n : H T = none) (r1 : Rep K H O d x) (r2 : Rep K H O e y) : Grow H (upd H T (.tup [x, y])) ∧ Rep K (upd H T (.tup [x, y])) O (.tuple [d, e]) (.ref T) :=
  resTup (K := K) hO (.cons r1 (.cons r2 .nil)) n
theorem wd_enum : WalkD K (Ite K a) (enumD ds) (fun H O => ∃ vs, SqL K H a vs ∧ LA K H O a vs ∧ Reps K H O ds vs) :=
  ⟨fun i H O hi ⟨vs, l, _, r⟩ => ⟨vs, vs[i]'(by rw [← r.length]; simpa [enumD] using hi), l, List.getElem?_eq_getElem _⟩,
   fun H O ⟨vs, l, _, r⟩ => ⟨vs, l, by simp [enumD, ← r.length]⟩,
   fun i H O x H' d hd ⟨vs, l, _, r⟩ hO y => by
    obtain ⟨T, v, e1, e2, e3, y⟩ := y
    subst e1; subst e3
    have hq := y vs l
    have hi : i < ds.length := by have := (List.getElem?_eq_some_iff.mp hd).1; simpa [enumD] using this
    have h0 : ds[i]? = some ds[i] := List.getElem?_eq_getElem hi
    obtain ⟨v', h1, h2⟩ := r.get h0
    rw [hq] at h1; cases h1
    have e4 : (enumD ds)[i]? = some (.tuple [.int i, ds[i]]) := by unfold enumD; rw [List.getElem?_mapIdx, h0]; rfl
    rw [hd] at e4; cases e4
    exact pair_res hO e2 (.int _) h2,
   fun H O H' O' ⟨vs, _, l, r⟩ k => ⟨vs, (l.mono k).sq, l.mono k, r.mono k⟩⟩
theorem wd_enumT : WalkD K (EnT.IteT K a) (enumD ds) (fun H O => ∃ vs, SqT K H a vs ∧ TAt K H O a vs ∧ Reps K H O ds vs) :=
  ⟨fun i H O hi ⟨vs, l, _, r⟩ => ⟨vs, vs[i]'(by rw [← r.length]; simpa [enumD] using hi), l, List.getElem?_eq_getElem _⟩,
   fun H O ⟨vs, l, _, r⟩ => ⟨vs, l, by simp [enumD, ← r.length]⟩,
   fun i H O x H' d hd ⟨vs, l, _, r⟩ hO y => by
    obtain ⟨T, v, e1, e2, e3, y⟩ := y
    subst e1; subst e3
    have hq := y vs l
    have hi : i < ds.length := by have := (List.getElem?_eq_some_iff.mp hd).1; simpa [enumD] using this
    have h0 : ds[i]? = some ds[i] := List.getElem?_eq_getElem hi
    obtain ⟨v', h1, h2⟩ := r.get h0
    rw [hq] at h1; cases h1
    have e4 : (enumD ds)[i]? = some (.tuple [.int i, ds[i]]) := by unfold enumD; rw [List.getElem?_mapIdx, h0]; rfl
    rw [hd] at e4; cases e4
    exact pair_res hO e2 (.int _) h2,
   fun H O H' O' ⟨vs, _, l, r⟩ k => ⟨vs, (l.mono k).sq, l.mono k, r.mono k⟩⟩
theorem zipD_len : ∀ ds es : List D, (zipD ds es).length = min ds.length es.length
  | [], _ => by simp [zipD]
  | _ :: _, [] => by simp [zipD]
  | d :: ds, e :: es => by simp [zipD, zipD_len ds es]
theorem zipD_get : ∀ (ds es : List D) (i : Nat) (d : D), (zipD ds es)[i]? = some d → ∃ x y, ds[i]? = some x ∧ es[i]? = some y ∧ d = .tuple [x, y]
  | [], _, _, _, h => by simp [zipD] at h
  | _ :: _, [], _, _, h => by simp [zipD] at h
  | x :: ds, y :: es, 0, d, h => by
    have : PyData.tuple [x, y] = d := by simpa [zipD] using h
    exact ⟨x, y, rfl, rfl, this.symm⟩
  | _ :: ds, _ :: es, i + 1, d, h => by
    obtain ⟨x, y, h1, h2, h3⟩ := zipD_get ds es i d (by simpa [zipD] using h)
    exact ⟨x, y, by simpa using h1, by simpa using h2, h3⟩
theorem wd_zip : WalkD K (Itz K a b) (zipD ds es) (fun H O => ∃ vs ws, LA K H O a vs ∧ Reps K H O ds vs ∧ LA K H O b ws ∧ Reps K H O es ws) :=
  ⟨fun i H O hi ⟨vs, ws, l, r, m, s⟩ => by
    rw [zipD_len] at hi
    have h1 : i < vs.length := by rw [← r.length]; omega
    have h2 : i < ws.length := by rw [← s.length]; omega
    exact ⟨vs, ws, vs[i], ws[i], l.sq, m.sq, List.getElem?_eq_getElem _, List.getElem?_eq_getElem _⟩,
   fun H O ⟨vs, ws, l, r, m, s⟩ => ⟨vs, ws, l.sq, m.sq, by rw [zipD_len, ← r.length, ← s.length]; omega⟩,
   fun i H O x H' d hd ⟨vs, ws, l, r, m, s⟩ hO y => by
    obtain ⟨T, v, w, e1, e2, e3, y1, y2⟩ := y
    subst e1; subst e3
    obtain ⟨d1, d2, g1, g2, g3⟩ := zipD_get ds es i d hd
    obtain ⟨v', h1, h2⟩ := r.get g1
    obtain ⟨w', h3, h4⟩ := s.get g2
    rw [y1 vs l.sq] at h1; cases h1
    rw [y2 ws m.sq] at h3; cases h3
    subst g3
    exact pair_res hO e2 h2 h4,
   fun H O H' O' ⟨vs, ws, l, r, m, s⟩ k => ⟨vs, ws, l.mono k, r.mono k, m.mono k, s.mono k⟩⟩
theorem wd_zipT : WalkD K (RZ.ItzT K a b) (zipD ds es) (fun H O => ∃ vs ws, TAt K H O a vs ∧ Reps K H O ds vs ∧ TAt K H O b ws ∧ Reps K H O es ws) :=
  ⟨fun i H O hi ⟨vs, ws, l, r, m, s⟩ => by
    rw [zipD_len] at hi
    have h1 : i < vs.length := by rw [← r.length]; omega
    have h2 : i < ws.length := by rw [← s.length]; omega
    exact ⟨vs, ws, vs[i], ws[i], l.sq, m.sq, List.getElem?_eq_getElem _, List.getElem?_eq_getElem _⟩,
   fun H O ⟨vs, ws, l, r, m, s⟩ => ⟨vs, ws, l.sq, m.sq, by rw [zipD_len, ← r.length, ← s.length]; omega⟩,
   fun i H O x H' d hd ⟨vs, ws, l, r, m, s⟩ hO y => by
    obtain ⟨T, v, w, e1, e2, e3, y1, y2⟩ := y
    subst e1; subst e3
    obtain ⟨d1, d2, g1, g2, g3⟩ := zipD_get ds es i d hd
    obtain ⟨v', h1, h2⟩ := r.get g1
    obtain ⟨w', h3, h4⟩ := s.get g2
    rw [y1 vs l.sq] at h1; cases h1
    rw [y2 ws m.sq] at h3; cases h3
    subst g3
    exact pair_res hO e2 h2 h4,
   fun H O H' O' ⟨vs, ws, l, r, m, s⟩ k => ⟨vs, ws, l.mono k, r.mono k, m.mono k, s.mono k⟩⟩
end

section
variable {X : Cx} {tg e e2 : Expr} {f : ME} {fs : MOs} {p pos tpos : Pos} {elts : List Expr} {kk : Nat}
/-! ### the keys of a dict that was just made: it is locked for good -/
theorem pi_keysL {td : TE} (he : PE X e td) : PI X tg e (fun σ H Rr => td σ H fun x H1 => ∃ d kvs, x = .ref d ∧ H1 d = some (.dK kvs) ∧ ∀ od, Rr (Itk d od kvs) (upd H1 d (.frz od (.dK kvs)))) := by
  refine ⟨fun pins s σ H Rr I h => ?_⟩
  refine thn (he.run pins s σ H _ I h) fun u s1 ⟨x, H1, I1, rx, d, kvs, ex, hd, q⟩ => ?_
  subst ex
  obtain rfl : u = Value.ref d := rx
  obtain ⟨od, I2⟩ := I1.lock hd (show Mut (some (.dK kvs)) from True.intro)
  obtain ⟨hs, hgd, hx, es, ep, vs, hdt, hsz, kv, hm⟩ := I2.frzK upd_same
  refine iter_keys hs hgd hx hdt (pi_one (tk := s1.toks) I2 _ (turn_keys _ hdt) ⟨_, Heap.get?_push_size _ rfl, rfl, ?_⟩ (q od))
  rw [hsz] <;> rfl
theorem repK_get {K : PySem.W.Frag} {H : Hp} {O : AS} : ∀ {ds : List (D × D)} {kvs : List (L2.Key × V)} {i : Nat} {d : D} {k : L2.Key} {v : V}, RepK K H O ds kvs → (keysD ds)[i]? = some d → kvs[i]? = some (k, v) → d = kD k ∧ KeyOk k
  | _, _, _, _, _, _, .nil, h, _ => by simp [keysD] at h
  | _, _, 0, _, _, _, .cons hk r t, h, g => by
    simp [keysD] at h g
    obtain ⟨rfl, rfl⟩ := g
    exact ⟨h.symm, hk⟩
  | _, _, i + 1, _, _, _, .cons hk r t, h, g => repK_get (i := i) t (by simpa [keysD] using h) (by simpa using g)
theorem wd_keys {K : PySem.W.Frag} {a : Addr} {od : Obj} {ds : List (D × D)} {kvs : List (L2.Key × V)} {H0 : Hp} {O0 : AS} (r : RepK K H0 O0 ds kvs) : WalkD K (Itk a od kvs) (keysD ds) (fun H O => H a = some (.frz od (.dK kvs)) ∧ ¬ O a) :=
  have hl : (keysD ds).length = kvs.length := by unfold keysD; rw [List.length_map]; exact r.length
  ⟨fun i H O hi ⟨h, _⟩ => ⟨h, by rw [← hl]; exact hi⟩,
   fun H O ⟨h, _⟩ => ⟨h, by rw [hl]; exact Nat.le_refl _⟩,
   fun i H O x H' d hd ⟨h, _⟩ _ y => by
    obtain ⟨e, k, v, h1, h2⟩ := y
    subst e; subst h2
    obtain ⟨rfl, hk⟩ := repK_get r hd h1
    refine ⟨Grow.rfl, ?_⟩
    cases k with
    | inl i => exact .int i
    | inr s => exact .str s hk,
   fun H O H' O' ⟨h, n⟩ k => k _ _ h n⟩
theorem R.lock {c : Cn} {E : AS} {ρ : Rho} {σ : L2.St} {H : Hp} {a : Addr} {u : HO} (r : R c (Add E a) ρ σ H) : R c E ρ σ (upd H a u) := by
  have k : Keeps H (OE ρ σ (Add E a)) (upd H a u) (OE ρ σ E) := fun b o h n => by
    have nb : b ≠ a := fun e => n (.inl (.inr e))
    exact ⟨by rw [upd_ne nb]; exact h, fun q => n (q.elim (fun z => .inl (.inl z)) .inr)⟩
  have th : ∀ b, (∃ o, H b = some o) → ∃ o, upd H a u b = some o := fun b ⟨o, h⟩ => by
    by_cases e : b = a
    · rw [e]; exact ⟨u, upd_same⟩
    · exact ⟨o, by rw [upd_ne e]; exact h⟩
  refine ⟨r.len, fun i d q => let ⟨v, h1, h2⟩ := r.val i d q; ⟨v, h1, h2.mono k⟩, fun i d q => ?_, r.inj, fun b q => th b (r.eal b (.inl q)), fun b o h => th b (r.al b o h), r.prt⟩
  obtain ⟨x, h1, h2, h3, h4⟩ := r.own i d q
  have nx : x ≠ a := fun e => h3 (.inr e)
  exact ⟨x, h1, h2.mono k (fun o e => by rw [upd_ne nx]; exact e), fun z => h3 (.inl z), h4⟩
theorem zi_seq (h : PE X e (tE X f)) : PI X tg e (tIt X (iSeq f)) := by
  refine ⟨fun pins s σ H Rr I hq => ?_⟩
  obtain ⟨c, E, ρ, ds, ρ', hK, hR, hf, q⟩ := hq
  obtain ⟨⟨rv, ρ1⟩, h1, hf⟩ := bindS hf
  have rd : ∀ Q : VK, (∀ z H1, PostV c E ρ σ H ρ1 H1 rv.d z → Q z H1) → tE X f σ H Q := fun Q hQ => ⟨c, E, ρ, rv, ρ1, hK, hR, h1, fun z H1 P => hQ z H1 (P.pv hR)⟩
  dsimp only at hf
  split at hf
  · cases hf
    refine (pi_list h).run pins s σ H Rr I (rd _ fun z H1 P => ?_)
    obtain ⟨s1, r1, p1⟩ := P
    cases p1 with
    | lst l r => exact ⟨_, rfl, ⟨_, by rw [← hK]; exact l.sq⟩, by rw [← hK]; exact q _ _ H1 ⟨s1, r1⟩ wd_list ⟨_, l, r⟩⟩
  · cases hf
    refine (pi_tup h).run pins s σ H Rr I (rd _ fun z H1 P => ?_)
    obtain ⟨s1, r1, p1⟩ := P
    cases p1 with
    | tup l r => exact ⟨_, rfl, ⟨_, by rw [← hK]; exact l.sq⟩, by rw [← hK]; exact q _ _ H1 ⟨s1, r1⟩ wd_tup ⟨_, l, r⟩⟩
  · cases hf
    refine (pi_str h).run pins s σ H Rr I (rd _ fun z H1 P => ?_)
    obtain ⟨s1, r1, p1⟩ := P
    cases p1 with
    | str _ hz => exact ⟨_, rfl, q _ _ H1 ⟨s1, r1⟩ (wd_str hz) True.intro⟩
  · cases hf
    refine (pi_list h).run pins s σ H Rr I (rd _ fun z H1 P => ?_)
    obtain ⟨s1, r1, p1⟩ := P
    cases p1 with
    | lst l r => exact ⟨_, rfl, ⟨_, by rw [← hK]; exact l.sq⟩, by rw [← hK]; exact q _ _ H1 ⟨s1, r1⟩ wd_list ⟨_, l, r⟩⟩
  · cases hf
    refine (pi_keysL h).run pins s σ H Rr I ⟨c, E, ρ, _, _, hK, hR, h1, fun z H1 P => ?_⟩
    obtain ⟨a, rfl, s1, n, r1, kvs, o1, o2⟩ := P
    refine ⟨a, kvs, rfl, o1, fun od => q _ _ _ ⟨⟨fun b o hb y => ?_, fun b o hb => ?_, s1.own⟩, r1.lock⟩ (wd_keys o2) ⟨upd_same, fun y => ?_⟩⟩
    · rw [upd_ne (ne_of_none hb n)]; exact s1.keep b o hb y
    · rw [upd_ne (ne_of_none hb n)]; exact s1.all b o hb
    · rcases y with y | y
      · obtain ⟨o, e⟩ := hR.eal a y; rw [n] at e; cases e
      · exact r1.own_not y (.inr rfl)
  · cases hf
theorem in62_ok {i : Int} (h : in62 i = true) : -(2 ^ 62) ≤ i ∧ i < 2 ^ 62 := by
  have h : i.natAbs < 4611686018427387904 := of_decide_eq_true h
  constructor <;> omega
theorem it_ops {fi : List D → Option (List D)} {σ : L2.St} {H : Hp} {Rr : It → Hp → Prop} {T : List V → Hp → Prop} (hq : tIt X (iFn fi fs) σ H Rr)
    (h : ∀ (O : AS) (xs ds : List D) (zs : List V) (H1 : Hp), fi xs = some ds → Reps X.K H1 O xs zs → (∀ b, O b → ∃ o, H1 b = some o) → (∀ J Gd, WalkD X.K J ds Gd → Gd H1 O → Rr J H1) → T zs H1) : tOps X fs σ H T := by
  obtain ⟨c, E, ρ, ds, ρ', hK, hR, hf, q⟩ := hq
  obtain ⟨⟨ps, ρ1⟩, h1, hf⟩ := bindS hf
  obtain ⟨xs, h2, hf⟩ := bindS hf
  obtain ⟨ds', h3, hf⟩ := bindS hf
  cases hf
  rw [hK] at q
  exact ⟨c, E, ρ, ps, ρ1, hK, hR, h1, fun zs H1 P => h (OE ρ1 σ E) xs _ zs H1 h3 (by rw [← hK]; exact tvs_ok P.2.1 h2 P.2.2) (oe_there P.2.1) fun J Gd w g => q J Gd H1 ⟨P.1, P.2.1⟩ w g⟩
def rng1 : List D → Option (List D)
  | [.int j] => if in62 j then some (upTo 0 j.toNat) else none
  | _ => none
def rng2 : List D → Option (List D)
  | [.int i, .int j] => if in62 i && in62 j then some (upTo i (j - i).toNat) else none
  | _ => none
def rng3 : List D → Option (List D)
  | [.int i, .int j, .int c] => if in62 i && in62 j && decide (c = -1) then some (downFrom i (i - j).toNat) else none
  | _ => none
variable {a b c : Expr}
theorem zi_range1 (hg : Gl X "range") (hm : X.mg "range" = none) (ha : PA X [a] (tOps X fs)) (hs : starEach [a] X.env = [(false, eval a X.env)]) : PI X tg (.Call (.Name "range" p) [a] [] pos) (tIt X (iFn rng1 fs)) := by
  refine ⟨fun pins s σ H Rr I hq => (pi_range1 hg hm ha hs).run pins s σ H Rr I (it_ops hq fun O xs ds zs H1 hf ts hO q => ?_)⟩
  unfold rng1 at hf
  split at hf
  · split at hf
    · rename_i hc
      cases ts with
      | cons t ts =>
      cases ts; cases t; cases hf
      obtain ⟨h1, h2⟩ := in62_ok hc
      exact ⟨_, rfl, h1, h2, q _ _ wd_range True.intro⟩
    · cases hf
  · cases hf
theorem zi_range2 (hg : Gl X "range") (hm : X.mg "range" = none) (ha : PA X [a, b] (tOps X fs)) (hs : starEach [a, b] X.env = [(false, eval a X.env), (false, eval b X.env)]) (hs2 : starEach [b] X.env = [(false, eval b X.env)]) :
    PI X tg (.Call (.Name "range" p) [a, b] [] pos) (tIt X (iFn rng2 fs)) := by
  refine ⟨fun pins s σ H Rr I hq => (pi_range2 hg hm ha hs hs2).run pins s σ H Rr I (it_ops hq fun O xs ds zs H1 hf ts hO q => ?_)⟩
  unfold rng2 at hf
  split at hf
  · split at hf
    · rename_i hc
      rw [Bool.and_eq_true] at hc
      cases ts with
      | cons t ts =>
      cases ts with
      | cons t2 ts =>
      cases ts; cases t; cases t2; cases hf
      obtain ⟨h1, h2⟩ := in62_ok hc.1
      obtain ⟨h3, h4⟩ := in62_ok hc.2
      exact ⟨_, _, rfl, ⟨h1, h2, h3, h4⟩, q _ _ wd_range True.intro⟩
    · cases hf
  · cases hf
theorem zi_range3 (hg : Gl X "range") (hm : X.mg "range" = none) (ha : PA X [a, b, c] (tOps X fs)) (hs : starEach [a, b, c] X.env = (false, eval a X.env) :: starEach [b, c] X.env) (hpl : (backTo pos (starEach [b, c] X.env)).any (·.1) = false) :
    PI X tg (.Call (.Name "range" p) [a, b, c] [] pos) (tIt X (iFn rng3 fs)) := by
  refine ⟨fun pins s σ H Rr I hq => (pi_range3 hg hm ha hs hpl).run pins s σ H Rr I (it_ops hq fun O xs ds zs H1 hf ts hO q => ?_)⟩
  unfold rng3 at hf
  split at hf
  · split at hf
    · rename_i hc
      simp only [Bool.and_eq_true, decide_eq_true_eq] at hc
      obtain ⟨⟨c1, c2⟩, c3⟩ := hc
      subst c3
      cases ts with
      | cons t ts =>
      cases ts with
      | cons t2 ts =>
      cases ts with
      | cons t3 ts =>
      cases ts; cases t; cases t2; cases t3; cases hf
      obtain ⟨h1, h2⟩ := in62_ok c1
      obtain ⟨h3, h4⟩ := in62_ok c2
      exact ⟨_, _, _, _, rfl, RgC.neg h1 h2 h3 h4, q _ _ wd_down True.intro⟩
    · cases hf
  · cases hf
theorem zi_enum (hg : Gl X "enumerate") (hm : X.mg "enumerate" = none) (ha : PA X [e] (tOps X fs)) (hs : starEach [e] X.env = [(false, eval e X.env)]) :
    PI X (.Tuple elts kk tpos) (.Call (.Name "enumerate" p) [e] [] pos) (tIt X (iFn enuD fs)) := by
  refine ⟨fun pins s σ H Rr I hq => (EnT.pi_enA hg hm ha hs).run pins s σ H Rr I (it_ops hq fun O xs ds zs H1 hf ts hO q => ?_)⟩
  unfold enuD at hf
  split at hf
  · cases hf
    cases ts with
    | cons t ts =>
    cases ts
    cases t with
    | lst l r => exact ⟨_, _, rfl, .inl ⟨l.sq, q _ _ wd_enum ⟨_, l.sq, l, r⟩⟩⟩
  · cases hf
    cases ts with
    | cons t ts =>
    cases ts
    cases t with
    | tup l r => exact ⟨_, _, rfl, .inr ⟨l.sq, q _ _ wd_enumT ⟨_, l.sq, l, r⟩⟩⟩
  · cases hf
theorem zi_zip (hg : Gl X "zip") (hm : X.mg "zip" = none) (ha : PA X [e, e2] (tOps X fs)) (hs : starEach [e, e2] X.env = (false, eval e X.env) :: starEach [e2] X.env) (hpl : (backTo pos (starEach [e2] X.env)).any (·.1) = false) :
    PI X (.Tuple elts kk tpos) (.Call (.Name "zip" p) [e, e2] [] pos) (tIt X (iFn zpD fs)) := by
  refine ⟨fun pins s σ H Rr I hq => (RZ.pi_zipA hg hm ha hs hpl).run pins s σ H Rr I (it_ops hq fun O xs ds zs H1 hf ts hO q => ?_)⟩
  unfold zpD at hf
  split at hf
  · cases hf
    cases ts with
    | cons t ts =>
    cases ts with
    | cons t2 ts =>
    cases ts
    cases t with
    | lst l r =>
    cases t2 with
    | lst l2 r2 => exact ⟨_, _, _, _, rfl, .inl ⟨l.sq, l2.sq, q _ _ wd_zip ⟨_, _, l, r, l2, r2⟩⟩⟩
  · cases hf
    cases ts with
    | cons t ts =>
    cases ts with
    | cons t2 ts =>
    cases ts
    cases t with
    | tup l r =>
    cases t2 with
    | tup l2 r2 => exact ⟨_, _, _, _, rfl, .inr ⟨l.sq, l2.sq, q _ _ wd_zipT ⟨_, _, l, r, l2, r2⟩⟩⟩
  · cases hf
end

/-! ## for -/
def forL (g : SG) (b : SS) : List D → SS
  | [] => fun ρ => some (.nx, ρ)
  | d :: ds => fun ρ => (g d ρ).bind fun ρ1 => (b ρ1).bind fun s => match s.1 with
    | .nx => forL g b ds s.2
    | .ct => forL g b ds s.2
    | .bk => some (.nx, s.2)
    | .rt v => some (.rt v, s.2)
def sFor (fi : MIt) (g : SG) (b : SS) : SS := fun ρ => (fi ρ).bind fun r => forL g b r.1 r.2
theorem zs_for {X : Cx} {pr tv : List Nat} {fi : MIt} {g : SG} {s : SS} {tg iter : Expr} {body : List Stmt} {pos : Pos} (hpo : PassesOwn (model X.prog X.w) X.A X.env X.xe) (hc : X.calm = true) (hi : PI X tg iter (tIt X fi)) (hg : PG X tg (tG X pr tv g)) (hb : PSs X body (tS X pr s)) (hfs : ∀ x, foldedSetIterable iter X.env x = pure x) :
    PS X (.For tg iter body [] pos) (tS X pr (sFor fi g s)) := by
  refine ⟨fun pins s0 σ H Dd I hq => (ps_for hpo hc hi hg hb hfs).run pins s0 σ H Dd I ?_⟩
  obtain ⟨c, E, ρ, out, ρ', hK, hp, hR, hf, q⟩ := hq
  obtain ⟨⟨ds, ρ1⟩, h1, hf⟩ := bindS hf
  refine ⟨c, E, ρ, ds, ρ1, hK, hR, h1, fun J Gd H1 P1 wk g1 => ?_⟩
  refine ⟨fun i m σ2 H2 => m = ds.length - i ∧ i ≤ ds.length ∧ ∃ ρ2, R c E ρ2 σ2 H2 ∧ forL g s (ds.drop i) ρ2 = some (out, ρ') ∧ EndS c E ρ2 σ2 H2 ρ' out Dd ∧ Gd H2 (OE ρ2 σ2 E), ⟨ds.length, by simp, Nat.zero_le _, ρ1, P1.2, hf, EndS.from P1 q, g1⟩, ?_⟩
  rintro i m σ2 H2 ⟨rfl, hi, ρ2, R2, f2, q2, g2⟩
  by_cases hlt : i < ds.length
  · have ed : ds[i]? = some ds[i] := List.getElem?_eq_getElem hlt
    rw [List.drop_eq_getElem_cons hlt] at f2
    obtain ⟨ρ3, h3, f2⟩ := bindS f2
    obtain ⟨⟨o4, ρ4⟩, h4, f2⟩ := bindS f2
    refine .inr ⟨wk.goes i H2 _ hlt g2, fun σ' H' => ∃ ρ2, R c E ρ2 σ' H' ∧ forL g s (ds.drop (i + 1)) ρ2 = some (out, ρ') ∧ EndS c E ρ2 σ' H' ρ' out Dd ∧ Gd H' (OE ρ2 σ' E), fun σ' H' h => ⟨ds.length - (i + 1), by omega, rfl, hlt, h⟩, fun x H3 y => ?_⟩
    obtain ⟨gr, rp⟩ := wk.yields i H2 _ x H3 _ ed g2 (oe_there R2) y
    have P3 : PostN c E ρ2 σ2 H2 ρ2 σ2 H3 := ⟨gr.stp, R2.grow gr⟩
    refine ⟨c, E, ρ2, ds[i], ρ3, hK, hp, R2.grow gr, rp, h3, fun σ4 H4 P4 _ => ⟨c, E, ρ3, o4, ρ4, hK, hp, P4.2, h4, ?_⟩⟩
    have P5 := P3.trans P4
    cases o4 with
    | nx => exact fun σ' H' p => ⟨ρ4, p.2, f2, EndS.from (P5.trans p) q2, wk.keeps _ _ _ _ g2 (P5.trans p).1.keeps⟩
    | ct => exact fun σ' H' p => ⟨ρ4, p.2, f2, EndS.from (P5.trans p) q2, wk.keeps _ _ _ _ g2 (P5.trans p).1.keeps⟩
    | bk => cases f2; exact fun σ' H' p => q2 σ' H' (P5.trans p)
    | rt rv => cases f2; exact fun z σ' H' p => q2 z σ' H' (PostR.from P5 p)
  · have e : i = ds.length := by omega
    subst e
    rw [List.drop_length] at f2
    cases f2
    exact .inl ⟨wk.stops H2 _ g2, q2 σ2 H2 ⟨Stp.rfl, R2⟩⟩
end Z
namespace Z
open PySem PySem.Spec L2
open PyProof.Rows hiding St

/-! ## comprehensions -/
def wipeR (ρ : Rho) : List Nat → Rho
  | [] => ρ
  | v :: vs => (wipeR ρ vs).set v none
/-- the block's own slots as they were ahead of it -/
def backR (ρ0 ρ : Rho) : List Nat → Rho
  | [] => ρ
  | v :: vs => (backR ρ0 ρ vs).set v ((ρ0[v]?).getD none)
def lcL (vs : List Nat) (g : SG) (t : MB) (f : ME) : List D → Rho → List D → Option (List D × Rho)
  | [], ρ, acc => some (acc, ρ)
  | d :: ds, ρ, acc => (g d ρ).bind fun ρ1 => (t ρ1).bind fun b => if b.1 then (f b.2).bind fun r => if decide (acc.length < 16777216) then lcL vs g t f ds (wipeR r.2 vs) (acc ++ [r.1.d]) else none
    else lcL vs g t f ds (wipeR b.2 vs) acc
def eLc (vs : List Nat) (fi : MIt) (g : SG) (t : MB) (f : ME) : ME := fun ρ => (fi ρ).bind fun r =>
  if vs.any (ownAt r.2) then none else (lcL vs g t f r.1 (wipeR r.2 vs) []).bind fun s => some (.o (.list s.1), backR r.2 s.2 vs)
def bYes : MB := fun ρ => some (true, ρ)

section
variable {c : Cn} {E : AS} {ρ ρ0 : Rho} {σ : L2.St} {H : Hp}
theorem wipeR_len : ∀ (ρ : Rho) (vs : List Nat), (wipeR ρ vs).length = ρ.length
  | _, [] => rfl
  | ρ, v :: vs => by unfold wipeR; rw [List.length_set, wipeR_len ρ vs]
theorem wipeR_out : ∀ {vs : List Nat} {i : Nat}, i ∉ vs → (wipeR ρ vs)[i]? = ρ[i]?
  | [], _, _ => rfl
  | v :: vs, i, h => by
    rw [List.mem_cons, not_or] at h
    unfold wipeR
    rw [List.getElem?_set_ne (Ne.symm h.1), wipeR_out h.2]
theorem wipeR_in : ∀ {vs : List Nat} {i : Nat} {r : RV}, i ∈ vs → (wipeR ρ vs)[i]? = some (some r) → False
  | [], _, _, h, _ => by cases h
  | v :: vs, i, r, h, q => by
    unfold wipeR at q
    rcases get_set q with ⟨_, q, _⟩ | ⟨h1, q⟩
    · cases q
    · rcases List.mem_cons.mp h with e | h
      · exact h1 e
      · exact wipeR_in h q
theorem wipe_out : ∀ {vs : List Nat} {i : Nat}, i ∉ vs → (wipe σ vs)[i]? = σ[i]?
  | [], _, _ => rfl
  | v :: vs, i, h => by
    rw [List.mem_cons, not_or] at h
    unfold wipe
    rw [List.getElem?_set_ne (Ne.symm h.1), wipe_out h.2]
theorem backR_len : ∀ (vs : List Nat), (backR ρ0 ρ vs).length = ρ.length
  | [] => rfl
  | v :: vs => by unfold backR; rw [List.length_set, backR_len vs]
theorem backR_out : ∀ {vs : List Nat} {i : Nat}, i ∉ vs → (backR ρ0 ρ vs)[i]? = ρ[i]?
  | [], _, _ => rfl
  | v :: vs, i, h => by
    rw [List.mem_cons, not_or] at h
    unfold backR
    rw [List.getElem?_set_ne (Ne.symm h.1), backR_out h.2]
theorem backR_in : ∀ {vs : List Nat} {i : Nat} {r : RV}, i ∈ vs → (backR ρ0 ρ vs)[i]? = some (some r) → ρ0[i]? = some (some r)
  | [], _, _, h, _ => by cases h
  | v :: vs, i, r, h, q => by
    unfold backR at q
    rcases get_set q with ⟨e, q, _⟩ | ⟨h1, q⟩
    · subst e
      cases w : ρ0[i]? with
      | none => rw [w] at q; cases q
      | some x => rw [w] at q; exact congrArg some q
    · rcases List.mem_cons.mp h with e | h
      · exact absurd e h1
      · exact backR_in h q
theorem wipe_same {σ' : L2.St} {vs : List Nat} (h : Same' vs σ σ') : wipe σ' vs = wipe σ vs := by
  have gen : ∀ us : List Nat, (∀ j, j ∉ vs → σ'[j]? = σ[j]?) → (∀ j ∈ vs, j ∈ us ∨ σ'[j]? = σ[j]?) → wipe σ' us = wipe σ us := by
    intro us ho hv
    apply List.ext_getElem?
    intro i
    by_cases hi : i ∈ us
    · have nn : ∀ (τ : L2.St), (wipe τ us)[i]? = none ∨ (wipe τ us)[i]? = some none := fun τ => by
        cases q : (wipe τ us)[i]? with
        | none => exact .inl rfl
        | some x =>
          cases x with
          | none => exact .inr rfl
          | some v => exact absurd hi (wipe_some q).2
      have l1 : (wipe σ' us).length = (wipe σ us).length := by rw [wipe_length, wipe_length]; exact h.1
      rcases nn σ' with e | e <;> rcases nn σ with e' | e'
      · rw [e, e']
      · have a := List.getElem?_eq_none_iff.mp e
        have b := (List.getElem?_eq_some_iff.mp e').1
        omega
      · have a := List.getElem?_eq_none_iff.mp e'
        have b := (List.getElem?_eq_some_iff.mp e).1
        omega
      · rw [e, e']
    · rw [wipe_out hi, wipe_out hi]
      by_cases hv' : i ∈ vs
      · exact (hv i hv').resolve_left hi
      · exact ho i hv'
  exact gen vs h.2 fun j hj => .inl hj
/-- slots are forgotten -/
theorem R.wipe {vs : List Nat} (r : R c E ρ σ H) (np : ∀ v ∈ vs, v ∉ c.pr) : R c E (wipeR ρ vs) (L2.wipe σ vs) H ∧ Stp ρ σ H (wipeR ρ vs) (L2.wipe σ vs) H := by
  have at1 : ∀ {i : Nat} {x : RV}, (wipeR ρ vs)[i]? = some (some x) → i ∉ vs ∧ ρ[i]? = some (some x) := fun {i x} q => by
    by_cases hi : i ∈ vs
    · exact (wipeR_in hi q).elim
    · rw [wipeR_out hi] at q; exact ⟨hi, q⟩
  have osub : ∀ b, OwnS (wipeR ρ vs) (L2.wipe σ vs) b → OwnS ρ σ b := fun b ⟨i, d, q1, q2⟩ => by
    obtain ⟨hi, q3⟩ := at1 q1
    exact ⟨i, d, q3, (wipe_some q2).1⟩
  have k : Keeps H (OE ρ σ E) H (OE (wipeR ρ vs) (L2.wipe σ vs) E) := fun b o h n => ⟨h, fun y => n (y.elim .inl fun y => .inr (osub b y))⟩
  refine ⟨⟨by rw [wipeR_len, wipe_length]; exact r.len, fun i d q => ?_, fun i d q => ?_, fun i j d e a q1 q2 g1 g2 => ?_, r.eal, r.al, fun i hi => ?_⟩, fun _ _ h _ => h, fun _ _ h => ⟨_, h⟩, fun b _ _ q => osub b q⟩
  · obtain ⟨hi, q1⟩ := at1 q
    obtain ⟨v, h1, h2⟩ := r.val i d q1
    exact ⟨v, by rw [wipe_out hi]; exact h1, h2.mono k⟩
  · obtain ⟨hi, q1⟩ := at1 q
    obtain ⟨a, h1, h2, h3⟩ := r.own i d q1
    exact ⟨a, by rw [wipe_out hi]; exact h1, h2.mono k (fun _ h => h), h3⟩
  · exact r.inj i j d e a (at1 q1).2 (at1 q2).2 (wipe_some g1).1 (wipe_some g2).1
  · rw [wipe_out fun h => np i h hi]; exact r.prt i hi
end

section
variable {X : Cx} {pr vs tv : List Nat} {fi : MIt} {g : SG} {t : MB} {f : ME}
/-- the context of a block -/
def Cn.blk (c : Cn) : Cn := ⟨c.K, fun _ => none, c.s0, []⟩
theorem R.blk {c : Cn} {E : AS} {ρ : Rho} {σ : L2.St} {H : Hp} (r : R c E ρ σ H) : R c.blk E ρ σ H :=
  ⟨r.len, r.val, fun i d q => let ⟨a, h1, h2, h3, _⟩ := r.own i d q; ⟨a, h1, h2, h3, .inl rfl⟩, r.inj, r.eal, (fun b o h => by cases h), fun i hi => by cases hi⟩
/-- out of a block -/
theorem R.unblk {c : Cn} {E E' : AS} {ρ0 ρ : Rho} {σ : L2.St} {H H' : Hp} {vs : List Nat} (r0 : R c E ρ0 σ H) (no : ∀ v ∈ vs, ownAt ρ0 v = false) (r : R c.blk E' ρ (L2.wipe σ vs) H') (s : Stp ρ0 σ H ρ (L2.wipe σ vs) H') (hE : ∀ b o, H b = some o → E' b → E b) :
    R c E' (backR ρ0 ρ vs) σ H' ∧ Stp ρ0 σ H (backR ρ0 ρ vs) σ H' ∧ OwnS (backR ρ0 ρ vs) σ = OwnS ρ (L2.wipe σ vs) := by
  have nown : ∀ v ∈ vs, ∀ d, ρ0[v]? ≠ some (some (.o d)) := fun v hv d q => by
    have := no v hv
    unfold ownAt at this
    rw [q] at this
    cases this
  have at1 : ∀ {i : Nat} {d : D}, (backR ρ0 ρ vs)[i]? = some (some (.o d)) → i ∉ vs ∧ ρ[i]? = some (some (.o d)) := fun {i d} q => by
    by_cases hi : i ∈ vs
    · exact (nown i hi d (backR_in hi q)).elim
    · rw [backR_out hi] at q; exact ⟨hi, q⟩
  have rlen : ρ.length = σ.length := by rw [r.len, wipe_length]
  have oS : OwnS (backR ρ0 ρ vs) σ = OwnS ρ (L2.wipe σ vs) := by
    funext b
    apply propext
    constructor
    · rintro ⟨i, d, q1, q2⟩
      obtain ⟨hi, q3⟩ := at1 q1
      exact ⟨i, d, q3, by rw [wipe_out hi]; exact q2⟩
    · rintro ⟨i, d, q1, q2⟩
      obtain ⟨q3, hi⟩ := wipe_some q2
      exact ⟨i, d, by rw [backR_out hi]; exact q1, q3⟩
  have oE : OE (backR ρ0 ρ vs) σ E' = OE ρ (L2.wipe σ vs) E' := by unfold OE; rw [oS]
  have k : Keeps H (OE ρ0 σ E) H' (OE (backR ρ0 ρ vs) σ E') := fun b o q n => ⟨s.keep b o q fun y => n (.inr y), fun y => by
    rcases y with y | y
    · exact n (.inl (hE b o q y))
    · rw [oS] at y; exact n (.inr (s.own b o q y))⟩
  refine ⟨⟨by rw [backR_len]; exact rlen, fun i d q => ?_, fun i d q => ?_, fun i j d e a q1 q2 g1 g2 => ?_, r.eal, fun b o q => let ⟨o', q'⟩ := r0.al b o q; s.all b o' q', r0.prt⟩, ⟨s.keep, s.all, fun b o q y => by rw [oS] at y; exact s.own b o q y⟩, oS⟩
  · by_cases hi : i ∈ vs
    · obtain ⟨v, h1, h2⟩ := r0.val i d (backR_in hi q)
      exact ⟨v, h1, h2.mono k⟩
    · rw [backR_out hi] at q
      obtain ⟨v, h1, h2⟩ := r.val i d q
      rw [wipe_out hi] at h1
      exact ⟨v, h1, by rw [oE]; exact h2⟩
  · obtain ⟨hi, q1⟩ := at1 q
    obtain ⟨a, h1, h2, h3, _⟩ := r.own i d q1
    rw [wipe_out hi] at h1
    refine ⟨a, h1, by rw [oE]; exact h2, h3, ?_⟩
    cases w : H a with
    | none =>
      cases w2 : c.H0 a with
      | none => exact .inl rfl
      | some u => obtain ⟨u', h'⟩ := r0.al a u w2; rw [w] at h'; cases h'
    | some u =>
      obtain ⟨j, e, y1, y2⟩ := s.own a u w ⟨i, d, q1, by rw [wipe_out hi]; exact h1⟩
      obtain ⟨a', y3, _, _, y4⟩ := r0.own j e y1
      rw [y2] at y3
      cases y3
      exact y4
  · obtain ⟨hi, q3⟩ := at1 q1
    obtain ⟨hj, q4⟩ := at1 q2
    exact r.inj i j d e a q3 q4 (by rw [wipe_out hi]; exact g1) (by rw [wipe_out hj]; exact g2)
theorem OwnS_wipe {ρ : Rho} {σ : L2.St} {vs : List Nat} : ∀ b, OwnS (wipeR ρ vs) (L2.wipe σ vs) b → OwnS ρ σ b := fun b ⟨i, d, q1, q2⟩ => by
  by_cases hi : i ∈ vs
  · exact (wipeR_in hi q1).elim
  · rw [wipeR_out hi] at q1
    exact ⟨i, d, q1, (wipe_some q2).1⟩
theorem lc_read {σ : L2.St} {H : Hp} {Q : VK} (hq : tE X (eLc vs fi g t f) σ H Q) (htv : ∀ i ∈ tv, i ∈ vs) : tLc (tIt X fi) (tG X [] tv g) (tT X t) (tE X f) vs σ H Q := by
  obtain ⟨c, E, ρ, rv, ρ', hK, hR, hf, q⟩ := hq
  obtain ⟨⟨ds, ρ1⟩, h1, hf⟩ := bindS hf
  split at hf
  · cases hf
  · rename_i no
    have no : ∀ v ∈ vs, ownAt ρ1 v = false := by
      intro v hv
      cases w : ownAt ρ1 v with
      | false => rfl
      | true => exact absurd (List.any_eq_true.mpr ⟨v, hv, w⟩) no
    obtain ⟨⟨out, ρ2⟩, h2, hf⟩ := bindS hf
    cases hf
    refine ⟨c, E, ρ, ds, ρ1, hK, hR, h1, fun J Gd H1 P1 wk g1 D nD => ?_⟩
    obtain ⟨s1, R1⟩ := P1
    have nE : ¬ E D := fun y => by obtain ⟨o, e⟩ := R1.eal D y; rw [nD] at e; cases e
    -- the start
    have Ra : R c.blk (Add E D) ρ1 σ (upd H1 D (.lst [])) := (R1.add (o := .lst []) nD (Grow.upd nD) upd_same).blk
    obtain ⟨Rb, sb⟩ := Ra.wipe (vs := vs) (fun v _ h => by cases h)
    have g2 : Gd (upd H1 D (.lst [])) (OE (wipeR ρ1 vs) (L2.wipe σ vs) (Add E D)) := wk.keeps _ _ _ _ g1 fun b o e n => ⟨by rw [upd_ne (ne_of_none e nD)]; exact e, fun y => by
      rcases y with (y | y) | y
      · exact n (.inl y)
      · rw [y, nD] at e; cases e
      · exact n (.inr (OwnS_wipe b y))⟩
    have s0 : Stp ρ1 σ H1 (wipeR ρ1 vs) (L2.wipe σ vs) (upd H1 D (.lst [])) := (Grow.upd nD).stp.trans sb
    refine ⟨fun i m H2 => m = ds.length - i ∧ i ≤ ds.length ∧ ∃ ρ3 accD accV, R c.blk (Add E D) ρ3 (L2.wipe σ vs) H2 ∧ Stp ρ1 σ H1 ρ3 (L2.wipe σ vs) H2 ∧ lcL vs g t f (ds.drop i) ρ3 accD = some (out, ρ2) ∧ H2 D = some (.lst accV) ∧
      Reps c.K H2 (OE ρ3 (L2.wipe σ vs) (Add E D)) accD accV ∧ Gd H2 (OE ρ3 (L2.wipe σ vs) (Add E D)), ⟨ds.length, by simp, Nat.zero_le _, wipeR ρ1 vs, [], [], Rb, s0, h2, upd_same, .nil, g2⟩, ?_⟩
    rintro i m H2 ⟨rfl, hi, ρ3, accD, accV, R3, s3, f3, eD, rA, g3⟩
    by_cases hlt : i < ds.length
    · have ed : ds[i]? = some ds[i] := List.getElem?_eq_getElem hlt
      rw [List.drop_eq_getElem_cons hlt] at f3
      obtain ⟨ρ4, h4, f3⟩ := bindS f3
      obtain ⟨⟨b5, ρ5⟩, h5, f3⟩ := bindS f3
      refine .inr ⟨wk.goes i H2 _ hlt g3, fun H' => ∃ ρ3 accD accV, R c.blk (Add E D) ρ3 (L2.wipe σ vs) H' ∧ Stp ρ1 σ H1 ρ3 (L2.wipe σ vs) H' ∧ lcL vs g t f (ds.drop (i + 1)) ρ3 accD = some (out, ρ2) ∧ H' D = some (.lst accV) ∧
        Reps c.K H' (OE ρ3 (L2.wipe σ vs) (Add E D)) accD accV ∧ Gd H' (OE ρ3 (L2.wipe σ vs) (Add E D)), fun H' h => ⟨ds.length - (i + 1), by omega, rfl, hlt, h⟩, fun x H3 y => ?_⟩
      obtain ⟨gr, rp⟩ := wk.yields i H2 _ x H3 _ ed g3 (oe_there R3) y
      have P3 : PostN c.blk (Add E D) ρ3 (L2.wipe σ vs) H2 ρ3 (L2.wipe σ vs) H3 := ⟨gr.stp, R3.grow gr⟩
      refine ⟨c.blk, Add E D, ρ3, ds[i], ρ4, hK, rfl, P3.2, rp, h4, fun σ4 H4 P4 sm => ⟨wipe_same (vs := vs) ⟨by rw [sm.1, wipe_length], fun j hj => by rw [sm.2 j fun h => hj (htv j h), wipe_out hj]⟩, ?_⟩⟩
      have wE : L2.wipe σ4 vs = L2.wipe σ vs := wipe_same (vs := vs) ⟨by rw [sm.1, wipe_length], fun j hj => by rw [sm.2 j fun h => hj (htv j h), wipe_out hj]⟩
      refine ⟨c.blk, Add E D, ρ4, b5, ρ5, hK, P4.2, h5, fun H5 P5 => ?_⟩
      have Q5 : PostN c.blk (Add E D) ρ3 (L2.wipe σ vs) H2 ρ5 σ4 H5 := (P3.trans P4).trans P5
      have nOD : ∀ {ρx : Rho} {σx : L2.St} {Hx : Hp}, R c.blk (Add E D) ρx σx Hx → ¬ OwnS ρx σx D := fun r y => r.own_not y (.inr rfl)
      have next : ∀ {ρx : Rho} {H' : Hp} {ad : List PyData} {av : List V}, PostN c.blk (Add E D) ρ3 (L2.wipe σ vs) H2 ρx σ4 H' → lcL vs g t f (ds.drop (i + 1)) (wipeR ρx vs) ad = some (out, ρ2) → H' D = some (.lst av) → Reps c.K H' (OE ρx σ4 (Add E D)) ad av →
          ∃ ρ3 accD accV, R c.blk (Add E D) ρ3 (L2.wipe σ vs) H' ∧ Stp ρ1 σ H1 ρ3 (L2.wipe σ vs) H' ∧ lcL vs g t f (ds.drop (i + 1)) ρ3 accD = some (out, ρ2) ∧ H' D = some (.lst accV) ∧
            Reps c.K H' (OE ρ3 (L2.wipe σ vs) (Add E D)) accD accV ∧ Gd H' (OE ρ3 (L2.wipe σ vs) (Add E D)) := fun {ρx H' ad av} P ff eD' rA' => by
        obtain ⟨Rw, sw⟩ := P.2.wipe (vs := vs) (fun v _ h => by cases h)
        rw [wE] at Rw sw
        exact ⟨wipeR ρx vs, ad, av, Rw, s3.trans (P.1.trans sw), ff, eD', rA'.mono sw.keeps, wk.keeps _ _ _ _ g3 (P.1.trans sw).keeps⟩
      cases b5 with
      | false =>
        have f3 : lcL vs g t f (ds.drop (i + 1)) (wipeR ρ5 vs) accD = some (out, ρ2) := f3
        exact iteF (next Q5 f3 (Q5.1.keep D _ eD (nOD R3)) (rA.mono Q5.1.keeps))
      | true =>
        obtain ⟨⟨r6, ρ6⟩, h6, f3⟩ := bindS f3
        split at f3
        · rename_i hz
          refine iteT ⟨c.blk, Add E D, ρ5, r6, ρ6, hK, P5.2, h6, fun z H6 P6 => ?_⟩
          obtain ⟨s6, R6, v6⟩ := P6.pv P5.2
          have Q6 : PostN c.blk (Add E D) ρ3 (L2.wipe σ vs) H2 ρ6 σ4 H6 := Q5.trans ⟨s6, R6⟩
          have eD6 := Q6.1.keep D _ eD (nOD R3)
          have la : accD.length = accV.length := rA.length
          refine ⟨accV, eD6, by rw [sizeLine_eq, ← la]; exact of_decide_eq_true hz, ?_⟩
          -- the list at D grows: nobody else reads it
          have nSD := nOD R6
          have kD : Keeps H6 (OE ρ6 σ4 (Add E D)) (upd H6 D (.lst (accV ++ [z]))) (OE ρ6 σ4 (Add E D)) := fun b o e n => ⟨by rw [upd_ne (fun e' => n (.inl (.inr e')))]; exact e, n⟩
          have R7 : R c.blk (Add E D) ρ6 σ4 (upd H6 D (.lst (accV ++ [z]))) := by
            have thr : ∀ b o, H6 b = some o → ∃ o', (upd H6 D (.lst (accV ++ [z]))) b = some o' := fun b o e => by
              by_cases hb : b = D
              · rw [hb]; exact ⟨_, upd_same⟩
              · exact ⟨o, by rw [upd_ne hb]; exact e⟩
            exact ⟨R6.len, fun j d w => let ⟨v, y1, y2⟩ := R6.val j d w; ⟨v, y1, y2.mono kD⟩, fun j d w => by
              obtain ⟨a, y1, y2, y3, y4⟩ := R6.own j d w
              exact ⟨a, y1, y2.mono kD (fun o e => by rw [upd_ne (fun e' => y3 (.inr e'))]; exact e), y3, y4⟩, R6.inj, fun b y => let ⟨o, e⟩ := R6.eal b y; thr b o e, (fun b o y => by cases y), R6.prt⟩
          have s7 : Stp ρ6 σ4 H6 ρ6 σ4 (upd H6 D (.lst (accV ++ [z]))) → True := fun _ => True.intro
          obtain ⟨Rw, sw⟩ := R7.wipe (vs := vs) (fun v _ h => by cases h)
          rw [wE] at Rw sw
          have st : Stp ρ1 σ H1 (wipeR ρ6 vs) (L2.wipe σ vs) (upd H6 D (.lst (accV ++ [z]))) := by
            have a1 := s3.trans Q6.1
            refine ⟨fun b o e n => ?_, fun b o e => ?_, fun b o e y => a1.own b o e (by
              obtain ⟨j, d, w1, w2⟩ := y
              by_cases hj : j ∈ vs
              · exact (wipeR_in hj w1).elim
              · rw [wipeR_out hj] at w1
                rw [← wE] at w2
                exact ⟨j, d, w1, (wipe_some w2).1⟩)⟩
            · have hb : b ≠ D := ne_of_none e nD
              rw [upd_ne hb]; exact a1.keep b o e n
            · obtain ⟨o', e'⟩ := a1.all b o e
              by_cases hb : b = D
              · rw [hb]; exact ⟨_, upd_same⟩
              · exact ⟨o', by rw [upd_ne hb]; exact e'⟩
          exact ⟨wipeR ρ6 vs, accD ++ [r6.d], accV ++ [z], Rw, st, f3, upd_same, (Reps.append ((rA.mono Q6.1.keeps).mono kD) (.cons (v6.mono kD) .nil)).mono sw.keeps, wk.keeps _ _ _ _ (wk.keeps _ _ _ _ g3 (Q6.1.keeps)) (kD.trans sw.keeps)⟩
        · cases f3
    · have e : i = ds.length := by omega
      subst e
      rw [List.drop_length] at f3
      cases f3
      refine .inl ⟨wk.stops H2 _ g3, q _ H2 ⟨D, rfl, ?_, ?_, ?_, ?_⟩⟩
      all_goals obtain ⟨Ru, su, oS⟩ := R.unblk (c := c) (E := E) (E' := Add E D) R1 no R3 s3 (fun b o e y => y.elim id fun e' => by rw [e', nD] at e; cases e)
      · exact s1.trans su
      · cases w : H D with
        | none => rfl
        | some u => obtain ⟨u', e'⟩ := s1.all D u w; rw [nD] at e'; cases e'
      · exact Ru
      · refine ⟨accV, eD, rA.mono fun b o e n => ⟨e, fun y => n ?_⟩⟩
        rcases y with y | y
        · exact .inl y
        · rw [oS] at y; exact .inr y
end
end Z
namespace Z
open PySem PySem.Spec L2
open PyProof.Rows hiding St

/-! ## comprehensions of two clauses -/
def lcL2 (vs vs1 : List Nat) (g : SG) (t : MB) (fi1 : MIt) (g1 : SG) (t1 : MB) (f : ME) : List D → Rho → List D → Option (List D × Rho)
  | [], ρ, acc => some (acc, ρ)
  | d :: ds, ρ, acc => (g d ρ).bind fun ρ1 => (t ρ1).bind fun b => if b.1 then (fi1 b.2).bind fun r => (lcL vs1 g1 t1 f r.1 (wipeR r.2 vs1) acc).bind fun s => lcL2 vs vs1 g t fi1 g1 t1 f ds (wipeR s.2 vs) s.1
    else lcL2 vs vs1 g t fi1 g1 t1 f ds (wipeR b.2 vs) acc
def eLc2 (vs vs1 : List Nat) (fi : MIt) (g : SG) (t : MB) (fi1 : MIt) (g1 : SG) (t1 : MB) (f : ME) : ME := fun ρ => (fi ρ).bind fun r =>
  if vs.any (ownAt r.2) then none else (lcL2 vs vs1 g t fi1 g1 t1 f r.1 (wipeR r.2 vs) []).bind fun s => some (.o (.list s.1), backR r.2 s.2 vs)
theorem wipe_wipe {σ : L2.St} {vs vs1 : List Nat} (h : ∀ i ∈ vs1, i ∈ vs) : wipe (wipe σ vs1) vs = wipe σ vs :=
  wipe_same (vs := vs) ⟨wipe_length _ _, fun j hj => wipe_out fun h' => hj (h j h')⟩
section
variable {X : Cx} {pr vs tv : List Nat} {fi : MIt} {g : SG} {t : MB} {f : ME}
/-- the inner walk: what it adds to the list at D -/
theorem lc_in {c : Cn} {E : AS} {ρ1 : Rho} {σ σb : L2.St} {H1 : Hp} {D : Addr} {ds out : List PyData} {ρ2 : Rho} {J : It} {Gd : Hp → AS → Prop} {Nx : Hp → Prop} (hK : c.K = X.K) (hpr : c.pr = []) (hH0 : c.H0 = fun _ => none) (hE : E D) (nD : H1 D = none) (htv : ∀ i ∈ tv, i ∈ vs) (wk : WalkD c.K J ds Gd)
    {ρ0 : Rho} {H0 : Hp} {acc0 : List PyData} {accV0 : List V} (R0 : R c E ρ0 (L2.wipe σb vs) H0) (s0 : Stp ρ1 σ H1 ρ0 (L2.wipe σb vs) H0) (hf : lcL vs g t f ds ρ0 acc0 = some (out, ρ2)) (eD0 : H0 D = some (.lst accV0)) (rA0 : Reps c.K H0 (OE ρ0 (L2.wipe σb vs) E) acc0 accV0) (g0 : Gd H0 (OE ρ0 (L2.wipe σb vs) E))
    (fin : ∀ H' accV, R c E ρ2 (L2.wipe σb vs) H' → Stp ρ1 σ H1 ρ2 (L2.wipe σb vs) H' → Keeps H0 (OE ρ0 (L2.wipe σb vs) E) H' (OE ρ2 (L2.wipe σb vs) E) → H' D = some (.lst accV) → Reps c.K H' (OE ρ2 (L2.wipe σb vs) E) out accV → Nx H') :
    ∃ W1 : Nat → Nat → Hp → Prop, (∃ m, W1 0 m H0) ∧ ∀ j k H, W1 j k H → (J.stop j H ∧ Nx H) ∨ (J.go j H ∧ ∃ Nx1 : Hp → Prop, (∀ H', Nx1 H' → ∃ k', k' < k ∧ W1 (j + 1) k' H') ∧ ∀ x H', J.yld j H x H' → tG X [] tv g x (L2.wipe σb vs) H' fun σ3 H5 => L2.wipe σ3 vs = L2.wipe σb vs ∧ tT X t σ3 H5 fun b H6 =>
      if b = true then tE X f σ3 H6 fun y H7 => ∃ acc, H7 D = some (.lst acc) ∧ acc.length < sizeLine ∧ Nx1 (upd H7 D (.lst (acc ++ [y]))) else Nx1 H6) := by
  have ww : L2.wipe (L2.wipe σb vs) vs = L2.wipe σb vs := wipe_wipe fun _ h => h
  refine ⟨fun i m H2 => m = ds.length - i ∧ i ≤ ds.length ∧ ∃ ρ3 accD accV, R c E ρ3 (L2.wipe σb vs) H2 ∧ Stp ρ1 σ H1 ρ3 (L2.wipe σb vs) H2 ∧ Keeps H0 (OE ρ0 (L2.wipe σb vs) E) H2 (OE ρ3 (L2.wipe σb vs) E) ∧ lcL vs g t f (ds.drop i) ρ3 accD = some (out, ρ2) ∧ H2 D = some (.lst accV) ∧
    Reps c.K H2 (OE ρ3 (L2.wipe σb vs) E) accD accV ∧ Gd H2 (OE ρ3 (L2.wipe σb vs) E), ⟨ds.length, by simp, Nat.zero_le _, ρ0, acc0, accV0, R0, s0, fun b o h n => ⟨h, n⟩, hf, eD0, rA0, g0⟩, ?_⟩
  rintro i m H2 ⟨rfl, hi, ρ3, accD, accV, R3, s3, k3, f3, eD, rA, g3⟩
  by_cases hlt : i < ds.length
  · have ed : ds[i]? = some ds[i] := List.getElem?_eq_getElem hlt
    rw [List.drop_eq_getElem_cons hlt] at f3
    obtain ⟨ρ4, h4, f3⟩ := bindS f3
    obtain ⟨⟨b5, ρ5⟩, h5, f3⟩ := bindS f3
    refine .inr ⟨wk.goes i H2 _ hlt g3, fun H' => ∃ ρ3 accD accV, R c E ρ3 (L2.wipe σb vs) H' ∧ Stp ρ1 σ H1 ρ3 (L2.wipe σb vs) H' ∧ Keeps H0 (OE ρ0 (L2.wipe σb vs) E) H' (OE ρ3 (L2.wipe σb vs) E) ∧ lcL vs g t f (ds.drop (i + 1)) ρ3 accD = some (out, ρ2) ∧ H' D = some (.lst accV) ∧
      Reps c.K H' (OE ρ3 (L2.wipe σb vs) E) accD accV ∧ Gd H' (OE ρ3 (L2.wipe σb vs) E), fun H' h => ⟨ds.length - (i + 1), by omega, rfl, hlt, h⟩, fun x H3 y => ?_⟩
    obtain ⟨gr, rp⟩ := wk.yields i H2 _ x H3 _ ed g3 (oe_there R3) y
    have P3 : PostN c E ρ3 (L2.wipe σb vs) H2 ρ3 (L2.wipe σb vs) H3 := ⟨gr.stp, R3.grow gr⟩
    have wE : ∀ {σ4 : L2.St}, Same' tv (L2.wipe σb vs) σ4 → L2.wipe σ4 vs = L2.wipe σb vs := fun {σ4} sm => wipe_same (vs := vs) ⟨by rw [sm.1, wipe_length], fun j hj => by rw [sm.2 j fun h => hj (htv j h), wipe_out hj]⟩
    refine ⟨c, E, ρ3, ds[i], ρ4, hK, hpr, P3.2, rp, h4, fun σ4 H4 P4 sm => ⟨wE sm, ?_⟩⟩
    have wE := wE sm
    refine ⟨c, E, ρ4, b5, ρ5, hK, P4.2, h5, fun H5 P5 => ?_⟩
    have Q5 : PostN c E ρ3 (L2.wipe σb vs) H2 ρ5 σ4 H5 := (P3.trans P4).trans P5
    have nOD : ∀ {ρx : Rho} {σx : L2.St} {Hx : Hp}, R c E ρx σx Hx → ¬ OwnS ρx σx D := fun r y => r.own_not y hE
    have next : ∀ {ρx : Rho} {H' : Hp} {ad : List PyData} {av : List V}, PostN c E ρ3 (L2.wipe σb vs) H2 ρx σ4 H' → lcL vs g t f (ds.drop (i + 1)) (wipeR ρx vs) ad = some (out, ρ2) → H' D = some (.lst av) → Reps c.K H' (OE ρx σ4 E) ad av →
        ∃ ρ3 accD accV, R c E ρ3 (L2.wipe σb vs) H' ∧ Stp ρ1 σ H1 ρ3 (L2.wipe σb vs) H' ∧ Keeps H0 (OE ρ0 (L2.wipe σb vs) E) H' (OE ρ3 (L2.wipe σb vs) E) ∧ lcL vs g t f (ds.drop (i + 1)) ρ3 accD = some (out, ρ2) ∧ H' D = some (.lst accV) ∧
          Reps c.K H' (OE ρ3 (L2.wipe σb vs) E) accD accV ∧ Gd H' (OE ρ3 (L2.wipe σb vs) E) := fun {ρx H' ad av} P ff eD' rA' => by
      obtain ⟨Rw, sw⟩ := P.2.wipe (vs := vs) (fun v _ h => by rw [hpr] at h; cases h)
      rw [wE] at Rw sw
      exact ⟨wipeR ρx vs, ad, av, Rw, s3.trans (P.1.trans sw), k3.trans (P.1.trans sw).keeps, ff, eD', rA'.mono sw.keeps, wk.keeps _ _ _ _ g3 (P.1.trans sw).keeps⟩
    cases b5 with
    | false =>
      have f3 : lcL vs g t f (ds.drop (i + 1)) (wipeR ρ5 vs) accD = some (out, ρ2) := f3
      exact iteF (next Q5 f3 (Q5.1.keep D _ eD (nOD R3)) (rA.mono Q5.1.keeps))
    | true =>
      obtain ⟨⟨r6, ρ6⟩, h6, f3⟩ := bindS f3
      split at f3
      · rename_i hz
        refine iteT ⟨c, E, ρ5, r6, ρ6, hK, P5.2, h6, fun z H6 P6 => ?_⟩
        obtain ⟨s6, R6, v6⟩ := P6.pv P5.2
        have Q6 : PostN c E ρ3 (L2.wipe σb vs) H2 ρ6 σ4 H6 := Q5.trans ⟨s6, R6⟩
        have eD6 := Q6.1.keep D _ eD (nOD R3)
        have la : accD.length = accV.length := rA.length
        refine ⟨accV, eD6, by rw [sizeLine_eq, ← la]; exact of_decide_eq_true hz, ?_⟩
        have kD : Keeps H6 (OE ρ6 σ4 E) (upd H6 D (.lst (accV ++ [z]))) (OE ρ6 σ4 E) := fun b o e n => ⟨by rw [upd_ne (fun e' => n (.inl (by rw [e']; exact hE)))]; exact e, n⟩
        have R7 : R c E ρ6 σ4 (upd H6 D (.lst (accV ++ [z]))) := by
          have thr : ∀ b o, H6 b = some o → ∃ o', (upd H6 D (.lst (accV ++ [z]))) b = some o' := fun b o e => by
            by_cases hb : b = D
            · rw [hb]; exact ⟨_, upd_same⟩
            · exact ⟨o, by rw [upd_ne hb]; exact e⟩
          exact ⟨R6.len, fun j d w => let ⟨v, y1, y2⟩ := R6.val j d w; ⟨v, y1, y2.mono kD⟩, fun j d w => by
            obtain ⟨a, y1, y2, y3, y4⟩ := R6.own j d w
            exact ⟨a, y1, y2.mono kD (fun o e => by rw [upd_ne (fun e' => y3 (by rw [e']; exact hE))]; exact e), y3, y4⟩, R6.inj, fun b y => let ⟨o, e⟩ := R6.eal b y; thr b o e, (fun b o y => by rw [hH0] at y; cases y), R6.prt⟩
        obtain ⟨Rw, sw⟩ := R7.wipe (vs := vs) (fun v _ h => by rw [hpr] at h; cases h)
        rw [wE] at Rw sw
        have st : Stp ρ1 σ H1 (wipeR ρ6 vs) (L2.wipe σb vs) (upd H6 D (.lst (accV ++ [z]))) := by
          have a1 := s3.trans Q6.1
          refine ⟨fun b o e n => ?_, fun b o e => ?_, fun b o e y => a1.own b o e (by
            obtain ⟨j, d, w1, w2⟩ := y
            by_cases hj : j ∈ vs
            · exact (wipeR_in hj w1).elim
            · rw [wipeR_out hj] at w1
              rw [← wE] at w2
              exact ⟨j, d, w1, (wipe_some w2).1⟩)⟩
          · have hb : b ≠ D := ne_of_none e nD
            rw [upd_ne hb]; exact a1.keep b o e n
          · obtain ⟨o', e'⟩ := a1.all b o e
            by_cases hb : b = D
            · rw [hb]; exact ⟨_, upd_same⟩
            · exact ⟨o', by rw [upd_ne hb]; exact e'⟩
        exact ⟨wipeR ρ6 vs, accD ++ [r6.d], accV ++ [z], Rw, st, (k3.trans Q6.1.keeps).trans (kD.trans sw.keeps), f3, upd_same, (Reps.append ((rA.mono Q6.1.keeps).mono kD) (.cons (v6.mono kD) .nil)).mono sw.keeps, wk.keeps _ _ _ _ (wk.keeps _ _ _ _ g3 (Q6.1.keeps)) (kD.trans sw.keeps)⟩
      · cases f3
  · have e : i = ds.length := by omega
    subst e
    rw [List.drop_length] at f3
    cases f3
    exact .inl ⟨wk.stops H2 _ g3, fin H2 accV R3 s3 k3 eD rA⟩
variable {vs1 tv1 : List Nat} {fi1 : MIt} {g1 : SG} {t1 : MB}
theorem lc2_read {σ : L2.St} {H : Hp} {Q : VK} (hq : tE X (eLc2 vs vs1 fi g t fi1 g1 t1 f) σ H Q) (htv : ∀ i ∈ tv, i ∈ vs) (hv1 : ∀ i ∈ vs1, i ∈ vs) (htv1 : ∀ i ∈ tv1, i ∈ vs1) :
    tLc2 (tIt X fi) (tG X [] tv g) (tT X t) (tIt X fi1) (tG X [] tv1 g1) (tT X t1) (tE X f) vs vs1 σ H Q := by
  obtain ⟨c, E, ρ, rv, ρ', hK, hR, hf, q⟩ := hq
  obtain ⟨⟨ds, ρ1⟩, h1, hf⟩ := bindS hf
  split at hf
  · cases hf
  · rename_i no
    have no : ∀ v ∈ vs, ownAt ρ1 v = false := by
      intro v hv
      cases w : ownAt ρ1 v with
      | false => rfl
      | true => exact absurd (List.any_eq_true.mpr ⟨v, hv, w⟩) no
    obtain ⟨⟨out, ρ2⟩, h2, hf⟩ := bindS hf
    cases hf
    refine ⟨c, E, ρ, ds, ρ1, hK, hR, h1, fun J Gd H1 P1 wk gd1 D nD => ?_⟩
    obtain ⟨s1, R1⟩ := P1
    have nE : ¬ E D := fun y => by obtain ⟨o, e⟩ := R1.eal D y; rw [nD] at e; cases e
    have Ra : R c.blk (Add E D) ρ1 σ (upd H1 D (.lst [])) := (R1.add (o := .lst []) nD (Grow.upd nD) upd_same).blk
    obtain ⟨Rb, sb⟩ := Ra.wipe (vs := vs) (fun v _ h => by cases h)
    have g2 : Gd (upd H1 D (.lst [])) (OE (wipeR ρ1 vs) (L2.wipe σ vs) (Add E D)) := wk.keeps _ _ _ _ gd1 fun b o e n => ⟨by rw [upd_ne (ne_of_none e nD)]; exact e, fun y => by
      rcases y with (y | y) | y
      · exact n (.inl y)
      · rw [y, nD] at e; cases e
      · exact n (.inr (OwnS_wipe b y))⟩
    have s0 : Stp ρ1 σ H1 (wipeR ρ1 vs) (L2.wipe σ vs) (upd H1 D (.lst [])) := (Grow.upd nD).stp.trans sb
    refine ⟨fun i m H2 => m = ds.length - i ∧ i ≤ ds.length ∧ ∃ ρ3 accD accV, R c.blk (Add E D) ρ3 (L2.wipe σ vs) H2 ∧ Stp ρ1 σ H1 ρ3 (L2.wipe σ vs) H2 ∧ lcL2 vs vs1 g t fi1 g1 t1 f (ds.drop i) ρ3 accD = some (out, ρ2) ∧ H2 D = some (.lst accV) ∧
      Reps c.K H2 (OE ρ3 (L2.wipe σ vs) (Add E D)) accD accV ∧ Gd H2 (OE ρ3 (L2.wipe σ vs) (Add E D)), ⟨ds.length, by simp, Nat.zero_le _, wipeR ρ1 vs, [], [], Rb, s0, h2, upd_same, .nil, g2⟩, ?_⟩
    rintro i m H2 ⟨rfl, hi, ρ3, accD, accV, R3, s3, f3, eD, rA, g3⟩
    by_cases hlt : i < ds.length
    · have ed : ds[i]? = some ds[i] := List.getElem?_eq_getElem hlt
      rw [List.drop_eq_getElem_cons hlt] at f3
      obtain ⟨ρ4, h4, f3⟩ := bindS f3
      obtain ⟨⟨b5, ρ5⟩, h5, f3⟩ := bindS f3
      refine .inr ⟨wk.goes i H2 _ hlt g3, fun H' => ∃ ρ3 accD accV, R c.blk (Add E D) ρ3 (L2.wipe σ vs) H' ∧ Stp ρ1 σ H1 ρ3 (L2.wipe σ vs) H' ∧ lcL2 vs vs1 g t fi1 g1 t1 f (ds.drop (i + 1)) ρ3 accD = some (out, ρ2) ∧ H' D = some (.lst accV) ∧
        Reps c.K H' (OE ρ3 (L2.wipe σ vs) (Add E D)) accD accV ∧ Gd H' (OE ρ3 (L2.wipe σ vs) (Add E D)), fun H' h => ⟨ds.length - (i + 1), by omega, rfl, hlt, h⟩, fun x H3 y => ?_⟩
      obtain ⟨gr, rp⟩ := wk.yields i H2 _ x H3 _ ed g3 (oe_there R3) y
      have P3 : PostN c.blk (Add E D) ρ3 (L2.wipe σ vs) H2 ρ3 (L2.wipe σ vs) H3 := ⟨gr.stp, R3.grow gr⟩
      refine ⟨c.blk, Add E D, ρ3, ds[i], ρ4, hK, rfl, P3.2, rp, h4, fun σ4 H4 P4 sm => ⟨wipe_same (vs := vs) ⟨by rw [sm.1, wipe_length], fun j hj => by rw [sm.2 j fun h => hj (htv j h), wipe_out hj]⟩, ?_⟩⟩
      have wE : L2.wipe σ4 vs = L2.wipe σ vs := wipe_same (vs := vs) ⟨by rw [sm.1, wipe_length], fun j hj => by rw [sm.2 j fun h => hj (htv j h), wipe_out hj]⟩
      refine ⟨c.blk, Add E D, ρ4, b5, ρ5, hK, P4.2, h5, fun H5 P5 => ?_⟩
      have Q5 : PostN c.blk (Add E D) ρ3 (L2.wipe σ vs) H2 ρ5 σ4 H5 := (P3.trans P4).trans P5
      have nOD : ∀ {ρx : Rho} {σx : L2.St} {Hx : Hp}, R c.blk (Add E D) ρx σx Hx → ¬ OwnS ρx σx D := fun r y => r.own_not y (.inr rfl)
      cases b5 with
      | false =>
        have f3 : lcL2 vs vs1 g t fi1 g1 t1 f (ds.drop (i + 1)) (wipeR ρ5 vs) accD = some (out, ρ2) := f3
        obtain ⟨Rw, sw⟩ := Q5.2.wipe (vs := vs) (fun v _ h => by cases h)
        rw [wE] at Rw sw
        exact iteF ⟨wipeR ρ5 vs, accD, accV, Rw, s3.trans (Q5.1.trans sw), f3, Q5.1.keep D _ eD (nOD R3), (rA.mono Q5.1.keeps).mono sw.keeps, wk.keeps _ _ _ _ g3 (Q5.1.trans sw).keeps⟩
      | true =>
        obtain ⟨⟨ds1, ρ6⟩, h6, f3⟩ := bindS f3
        obtain ⟨⟨out1, ρ7⟩, h7, f3⟩ := bindS f3
        refine iteT ⟨c.blk, Add E D, ρ5, ds1, ρ6, hK, P5.2, h6, fun J1 Gd1 H6 P6 wk1 gd2 => ?_⟩
        have Q6 : PostN c.blk (Add E D) ρ3 (L2.wipe σ vs) H2 ρ6 σ4 H6 := Q5.trans P6
        obtain ⟨Rw, sw⟩ := P6.2.wipe (vs := vs1) (fun v _ h => by cases h)
        have www : L2.wipe (L2.wipe σ4 vs1) vs = L2.wipe σ vs := (wipe_wipe hv1).trans wE
        refine lc_in (X := X) (c := c.blk) (E := Add E D) (ρ1 := ρ1) (σ := σ) (σb := σ4) (H1 := H1) (vs := vs1) (tv := tv1) (g := g1) (t := t1) (f := f) hK rfl rfl (.inr rfl) nD htv1 wk1 Rw (s3.trans (Q6.1.trans sw)) h7 (Q6.1.keep D _ eD (nOD R3)) ((rA.mono Q6.1.keeps).mono sw.keeps) (wk1.keeps _ _ _ _ gd2 sw.keeps) fun H' accV' R8 s8 k8 eD8 rA8 => ?_
        obtain ⟨Rw9, sw9⟩ := R8.wipe (vs := vs) (fun v _ h => by cases h)
        rw [www] at Rw9 sw9
        exact ⟨wipeR ρ7 vs, out1, accV', Rw9, s8.trans sw9, f3, eD8, rA8.mono sw9.keeps, wk.keeps _ _ _ _ g3 (((Q6.1.trans sw).keeps.trans k8).trans sw9.keeps)⟩
    · have e : i = ds.length := by omega
      subst e
      rw [List.drop_length] at f3
      cases f3
      refine .inl ⟨wk.stops H2 _ g3, q _ H2 ⟨D, rfl, ?_, ?_, ?_, ?_⟩⟩
      all_goals obtain ⟨Ru, su, oS⟩ := R.unblk (c := c) (E := E) (E' := Add E D) R1 no R3 s3 (fun b o e y => y.elim id fun e' => by rw [e', nD] at e; cases e)
      · exact s1.trans su
      · cases w : H D with
        | none => rfl
        | some u => obtain ⟨u', e'⟩ := s1.all D u w; rw [nD] at e'; cases e'
      · exact Ru
      · refine ⟨accV, eD, rA.mono fun b o e n => ⟨e, fun y => n ?_⟩⟩
        rcases y with y | y
        · exact .inl y
        · rw [oS] at y; exact .inr y
end
end Z
namespace Z
open PySem PySem.Spec L2
open PyProof.Rows hiding St

/-! ## more expressions -/
def tyD : D → String
  | .none => "NoneType"
  | .bool _ => "bool"
  | .int _ => "int"
  | .str _ => "str"
  | .list _ => "list"
  | .tuple _ => "tuple"
  | .dict _ => "dict"
def knownTy : List String := ["int", "bool", "str", "list", "tuple", "dict"]
def isT (t T : String) : Bool := t == T || (t == "bool" && T == "int")
def isA (T : String) (d : D) : Bool := isT (tyD d) T
def isiD (Ts : List String) (d : D) : Bool := Ts.any fun T => isA T d
def allTy : List String := ["NoneType", "int", "bool", "str", "list", "tuple", "dict"]
theorem kit_all : (allTy.all fun t => knownTy.all fun T => decide (kitB t T = some (isT t T))) = true := by decide +kernel
theorem tyD_all (d : D) : tyD d ∈ allTy := by cases d <;> simp [tyD, allTy]
theorem kit_isA {K : PySem.W.Frag} (d : D) : ∀ T ∈ knownTy, PySem.W.kitOne K (.type (tyD d)) (.type T) = some (isA T d) := fun T hT =>
  kit_ty (of_decide_eq_true (List.all_eq_true.mp (List.all_eq_true.mp kit_all _ (tyD_all d)) T hT))
theorem kit_any {K : PySem.W.Frag} (d : D) : ∀ Ts : List String, (∀ T ∈ Ts, T ∈ knownTy) → PySem.W.kitAny K (.type (tyD d)) (Ts.map .type) = some (isiD Ts d)
  | [], _ => rfl
  | T :: Ts, h => by
    refine kitAny_cons (kit_isA d T (h T List.mem_cons_self)) (fun e => ?_) fun e => ?_
    · rw [kit_any d Ts fun U hU => h U (List.mem_cons_of_mem _ hU)]
      unfold isiD
      rw [List.any_cons, e, Bool.false_or]
    · unfold isiD
      rw [List.any_cons, e, Bool.true_or]
theorem ty_top {K : PySem.W.Frag} {H : Hp} {O : AS} {d : D} {x : V} (t : Top K H O d x) : TyX K H x (.type (tyD d)) := by
  have lst : ∀ {a : Addr} {vs : List V}, SqL K H a vs → TyX K H (.ref a) (.type "list") := fun {a vs} h => by
    rcases h with (h | ⟨o, h⟩) | ⟨o, its, n, h, c, _⟩
    · exact .base (.lst h)
    · exact .base (.frz h)
    · exact .kList h c
  have tup : ∀ {a : Addr} {vs : List V}, SqT K H a vs → TyX K H (.ref a) (.type "tuple") := fun {a vs} h => by
    rcases h with (h | ⟨o, h⟩) | ⟨o, its, n, h, c, _⟩
    · exact .base (.tup h)
    · exact .fTuple h
    · exact .kTuple h c
  rcases t with t | ⟨a, rfl, t⟩
  · cases t with
    | non => exact .base .non
    | bl b => exact .base (.bl b)
    | int i => exact .base (.int i)
    | str s _ => exact .base (.str s)
    | lst l _ => exact lst l.sq
    | tup l _ => exact tup l.sq
    | dic l _ _ => exact .base (.dK l)
  · cases d with
    | list ds => obtain ⟨vs, e, _⟩ := t; exact .base (.lst e)
    | dict ds => obtain ⟨vs, e, _⟩ := t; exact .base (.dK e)
    | _ => exact (show False from t).elim
def eIsi (Ts : List String) (fo : MO) : ME := fun ρ => (fo ρ).bind fun r => (r.1.get r.2).bind fun d => some (.v (.bool (isiD Ts d)), r.2)
/-- the classes' names -/
def tTys (Ts : List String) : TA := fun _ H Q => Q (Ts.map .ty) H

section
variable {X : Cx} {e a b : Expr} {es : List Expr} {fo : MO} {f : ME} {fs : MOs} {pos p : Pos}
theorem zt_nil : PA X [] (tTys []) := ⟨fun pos pins s σ H Q I h => pa_nil.run pos pins s σ H Q I h⟩
theorem zt_cons {T : String} {Ts : List String} (h1 : PE X e (tC (.ty T))) (h2 : PA X es (tTys Ts)) (hs : starEach (e :: es) X.env = (false, eval e X.env) :: starEach es X.env) : PA X (e :: es) (tTys (T :: Ts)) :=
  ⟨fun pos pins s σ H Q I h => (pa_cons h1 h2 hs).run pos pins s σ H Q I h⟩
theorem isi_read {σ : L2.St} {H : Hp} {Q : VK} {Ts : List String} {r : V → List V → Hp → VK → Prop} (hq : tE X (eIsi Ts fo) σ H Q)
    (h : ∀ (O : AS) (d : D) (z : V) (H1 : Hp), Top X.K H1 O d z → (∀ H' , Grow H1 H' → Q (.bl (isiD Ts d)) H') → r z [] H1 Q) : tOpd X fo σ H fun z H1 => r z [] H1 Q := by
  obtain ⟨c, E, ρ, rv, ρ', hK, hR, hf, q⟩ := hq
  obtain ⟨⟨p1, ρ1⟩, h1, hf⟩ := bindS hf
  obtain ⟨d, h2, hf⟩ := bindS hf
  cases hf
  refine ⟨c, E, ρ, p1, ρ1, hK, hR, h1, fun z H1 P1 => h (OE ρ1 σ E) d z H1 (by rw [← hK]; exact P1.top Stp.rfl P1.2.1 h2) fun H' g => q _ H' ⟨P1.1.trans g.stp, P1.2.1.grow g, .bl _⟩⟩
theorem zpe_isi1 {T : String} (hT : T ∈ knownTy) (hg : Gl X "isinstance") (hm : X.mg "isinstance" = none) (ha : PE X a (tOpd X fo)) (hb : PE X b (tC (.ty T)))
    (h1 : starEach [a, b] X.env = (false, eval a X.env) :: starEach [b] X.env) (h2 : starEach [b] X.env = (false, eval b X.env) :: starEach [] X.env) (hpl : (backTo pos (starEach [b] X.env)).any (·.1) = false) :
    PE X (.Call (.Name "isinstance" p) [a, b] [] pos) (tE X (eIsi [T] fo)) := by
  refine ⟨fun pins s σ H Q I hq => (pe_callB call_isi hg hm (by decide +kernel) (pa_cons ha (pa_cons hb pa_nil h2) h1) (by decide) (by decide) h1 hpl).run pins s σ H Q I ?_⟩
  refine isi_read (r := fun z _ H1 Q => tC (.ty T) σ H1 fun y H2 => rIsi X.K [z, y] H2 Q) hq fun O d z H1 t q => ?_
  refine ⟨z, .ty T, .type (tyD d), .type T, isA T d, rfl, .ty T, ty_top t, kit_isA d T hT, ?_⟩
  have e : isA T d = isiD [T] d := by unfold isiD; simp
  rw [e]; exact q H1 Grow.rfl
theorem zpe_isiT {Ts : List String} {kk : Nat} {tp : Pos} (hT : ∀ T ∈ Ts, T ∈ knownTy) (hz : szb Ts.length = true) (hg : Gl X "isinstance") (hm : X.mg "isinstance" = none) (ha : PE X a (tOpd X fo)) (hb : PA X es (tTys Ts))
    (h1 : starEach [a, .Tuple es kk tp] X.env = (false, eval a X.env) :: starEach [.Tuple es kk tp] X.env) (h2 : starEach [.Tuple es kk tp] X.env = (false, eval (.Tuple es kk tp) X.env) :: starEach [] X.env) (hpl : (backTo pos (starEach [.Tuple es kk tp] X.env)).any (·.1) = false) :
    PE X (.Call (.Name "isinstance" p) [a, .Tuple es kk tp] [] pos) (tE X (eIsi Ts fo)) := by
  refine ⟨fun pins s σ H Q I hq => (pe_callB call_isiT hg hm (by decide +kernel) (pa_cons ha (pa_cons (pe_tup hb) pa_nil h2) h1) (by decide) (by decide) h1 hpl).run pins s σ H Q I ?_⟩
  refine isi_read (r := fun z _ H1 Q => tTup (tTys Ts) σ H1 fun y H2 => rIsiT X.K [z, y] H2 Q) hq fun O d z H1 t q => ?_
  refine ⟨by rw [List.length_map]; exact szb_ok hz, fun P nP => ⟨z, P, Ts.map .ty, .type (tyD d), Ts.map .type, isiD Ts d, rfl, upd_same, ?_, ?_, kit_any d Ts hT, q _ (Grow.upd nP)⟩⟩
  · clear hT hz hb h1 h2 hpl q hq
    induction Ts with
    | nil => exact .nil
    | cons T Ts ih => exact .cons (.ty T) ih
  · have gr : Grow H1 (upd H1 P (.tup (Ts.map .ty))) := Grow.upd nP
    have t' : Top X.K (upd H1 P (.tup (Ts.map .ty))) O d z := t.elim (fun r => .inl (r.mono gr.keeps)) fun ⟨a, e, r⟩ => .inr ⟨a, e, r.mono gr.keeps (gr a)⟩
    exact ty_top t'
/-! own defs -/
theorem zpe_call {F : FnS} {fs : MAs} {x : Str} {k : Nat} {f0 : Addr} {fd : FuncData} {ps : List Str} (Fo : FnOk X.prog X.w X.K X.mg X.base CX0 k f0 fd ps (spF X.K F)) (hr : Room k X.A) (hg : Gl X x) (hm : X.mg x = some (.ref f0)) (hk : PySem.W.keepIn X.K (.ref f0) = true) (hb : Binds X.K fd ps [])
    (ha : PA X (e :: es) (tAs X fs)) (hdb : (x == ("__debug__" : Str)) = false) (he : starEach (e :: es) X.env = (false, eval e X.env) :: starEach es X.env) (hpl : (backTo pos (starEach es X.env)).any (·.1) = false) :
    PE X (.Call (.Name x p) (e :: es) [] pos) (tE X (eCall F fs)) :=
  ⟨fun pins s σ H Q I hq => (pe_call (E := E0) Fo hr hg hm hk hb .nil pass0 ha hdb he hpl).run pins s σ H Q I (call_read hq)⟩
theorem zpe_call0 {F : FnS} {x : Str} {k : Nat} {f0 : Addr} {fd : FuncData} {ps : List Str} (Fo : FnOk X.prog X.w X.K X.mg X.base CX0 k f0 fd ps (spF X.K F)) (hr : Room k X.A) (hg : Gl X x) (hm : X.mg x = some (.ref f0)) (hk : PySem.W.keepIn X.K (.ref f0) = true) (hb : Binds X.K fd ps [])
    (hdb : (x == ("__debug__" : Str)) = false) : PE X (.Call (.Name x p) [] [] pos) (tE X (eCall F aNil)) := by
  refine ⟨fun pins s σ H Q I hq => (pe_call0 (E := E0) Fo hr hg hm hk hb .nil pass0 hdb).run pins s σ H Q I ?_⟩
  obtain ⟨c, E, ρ, p1, ρ1, hK, hR, h1, h2⟩ := call_read hq
  cases h1
  have h1 : R c (AddL E []) ρ σ H := by rw [AddL_nil]; exact hR
  have h3 : ArAt c (AddL E []) ρ σ H [] [] [] := by unfold ArAt; exact True.intro
  exact h2 [] [] H ⟨Stp.rfl, h1, h3, (fun a h => by cases h), List.nodup_nil⟩
/-! comprehensions -/
theorem zpe_lc {elt tg iter : Expr} {ifs : List Expr} {scope : Scope} {own : List (Str × Nat)} {tv : List Nat} {fi : MIt} {g : SG} {t : MB} (hc : X.calm = true) (hN : X.N.Nodup) (hi : PI X tg iter (tIt X fi)) (ok : BlkOk X.N X.env.scope scope own)
    (hg : ∀ (s : Shared) (H : Hp) (C : Addr) (cl : List (Str × Addr)) (fp : List Addr), PG (X.blk s H scope (compEnvC scope cl C X.env) fp) tg (tG (X.blk s H scope (compEnvC scope cl C X.env) fp) [] tv g))
    (ht : ∀ (s : Shared) (H : Hp) (C : Addr) (cl : List (Str × Addr)) (fp : List Addr), PTs (X.blk s H scope (compEnvC scope cl C X.env) fp) ifs (tT (X.blk s H scope (compEnvC scope cl C X.env) fp) t))
    (he : ∀ (s : Shared) (H : Hp) (C : Addr) (cl : List (Str × Addr)) (fp : List Addr), PE (X.blk s H scope (compEnvC scope cl C X.env) fp) elt (tE (X.blk s H scope (compEnvC scope cl C X.env) fp) f))
    (hs : ∀ x, foldedSetIterable iter X.env x = pure x) (htv : ∀ i ∈ tv, i ∈ own.map (·.2)) : PE X (.ListComp elt [⟨tg, iter, ifs, 0⟩] scope pos) (tE X (eLc (own.map (·.2)) fi g t f)) :=
  ⟨fun pins s σ H Q I hq => (pe_lc (te := tE X f) (tt := tT X t) (g := tG X [] tv g) hc hN hi ok hg ht he hs).run pins s σ H Q I (lc_read hq htv)⟩
theorem zs_setLc {i : Nat} {y : Str} {py spos : Pos} {pr : List Nat} {elt tg iter : Expr} {ifs : List Expr} {scope : Scope} {own : List (Str × Nat)} {tv : List Nat} {fi : MIt} {g : SG} {t : MB} (hc : X.calm = true) (hN : X.N.Nodup) (hy : X.N[i]? = some y) (hyl : X.env.scope.names.lookup y = some .local)
    (hsw : swapsWith (.ListComp elt [⟨tg, iter, ifs, 0⟩] scope pos) (some (.Name y py)) spos.line X.env = pure true) (hi : PI X tg iter (tIt X fi)) (ok : BlkOk X.N X.env.scope scope own)
    (hg : ∀ (s : Shared) (H : Hp) (C : Addr) (cl : List (Str × Addr)) (fp : List Addr), PG (X.blk s H scope (compEnvC scope cl C X.env) fp) tg (tG (X.blk s H scope (compEnvC scope cl C X.env) fp) [] tv g))
    (ht : ∀ (s : Shared) (H : Hp) (C : Addr) (cl : List (Str × Addr)) (fp : List Addr), PTs (X.blk s H scope (compEnvC scope cl C X.env) fp) ifs (tT (X.blk s H scope (compEnvC scope cl C X.env) fp) t))
    (he : ∀ (s : Shared) (H : Hp) (C : Addr) (cl : List (Str × Addr)) (fp : List Addr), PE (X.blk s H scope (compEnvC scope cl C X.env) fp) elt (tE (X.blk s H scope (compEnvC scope cl C X.env) fp) f))
    (hs : ∀ x, foldedSetIterable iter X.env x = pure x) (htv : ∀ i ∈ tv, i ∈ own.map (·.2)) : PS X (.Assign [.Name y py] (.ListComp elt [⟨tg, iter, ifs, 0⟩] scope pos) spos) (tS X pr (sSet pr i (eLc (own.map (·.2)) fi g t f))) := by
  refine ⟨fun pins s σ H Dd I hq => (ps_setLc (te := tE X f) (tt := tT X t) (g := tG X [] tv g) hc hN hy hyl hsw hi ok hg ht he hs).run pins s σ H Dd I ?_⟩
  obtain ⟨c, E, ρ, out, ρ', hK, hp, hR, hf, q⟩ := hq
  unfold sSet at hf
  split at hf
  · cases hf
  · rename_i np
    obtain ⟨⟨rv, ρ1⟩, h1, hf⟩ := bindS hf
    cases hf
    exact lc_read (tv := tv) ⟨c, E, ρ, rv, ρ1, hK, hR, h1, fun z H1 P1 => q _ H1 (post_set hR P1 (by rw [hp]; exact ncont np))⟩ htv
theorem zpe_lc2 {elt tg iter tg1 iter1 : Expr} {ifs ifs1 : List Expr} {scope : Scope} {own : List (Str × Nat)} {tv vs1 : List Nat} {fi fi1 : MIt} {g g1 : SG} {t t1 : MB} (hc : X.calm = true) (hN : X.N.Nodup) (hi : PI X tg iter (tIt X fi)) (ok : BlkOk X.N X.env.scope scope own) (hv : ∀ i ∈ vs1, i ∈ own.map (·.2))
    (hg : ∀ (s : Shared) (H : Hp) (C : Addr) (cl : List (Str × Addr)) (fp : List Addr), PG (X.blk s H scope (compEnvC scope cl C X.env) fp) tg (tG (X.blk s H scope (compEnvC scope cl C X.env) fp) [] tv g))
    (ht : ∀ (s : Shared) (H : Hp) (C : Addr) (cl : List (Str × Addr)) (fp : List Addr), PTs (X.blk s H scope (compEnvC scope cl C X.env) fp) ifs (tT (X.blk s H scope (compEnvC scope cl C X.env) fp) t))
    (hi1 : ∀ (s : Shared) (H : Hp) (C : Addr) (cl : List (Str × Addr)) (fp : List Addr), PI (X.blk s H scope (compEnvC scope cl C X.env) fp) tg1 iter1 (tIt (X.blk s H scope (compEnvC scope cl C X.env) fp) fi1))
    (hg1 : ∀ (s : Shared) (H : Hp) (C : Addr) (cl : List (Str × Addr)) (fp : List Addr), PG (X.blk s H scope (compEnvC scope cl C X.env) fp) tg1 (tG (X.blk s H scope (compEnvC scope cl C X.env) fp) [] vs1 g1))
    (ht1 : ∀ (s : Shared) (H : Hp) (C : Addr) (cl : List (Str × Addr)) (fp : List Addr), PTs (X.blk s H scope (compEnvC scope cl C X.env) fp) ifs1 (tT (X.blk s H scope (compEnvC scope cl C X.env) fp) t1))
    (he : ∀ (s : Shared) (H : Hp) (C : Addr) (cl : List (Str × Addr)) (fp : List Addr), PE (X.blk s H scope (compEnvC scope cl C X.env) fp) elt (tE (X.blk s H scope (compEnvC scope cl C X.env) fp) f))
    (hs : ∀ x, foldedSetIterable iter X.env x = pure x) (hs1 : ∀ env x, foldedSetIterable iter1 env x = pure x) (htv : ∀ i ∈ tv, i ∈ own.map (·.2)) : PE X (.ListComp elt [⟨tg, iter, ifs, 0⟩, ⟨tg1, iter1, ifs1, 0⟩] scope pos) (tE X (eLc2 (own.map (·.2)) vs1 fi g t fi1 g1 t1 f)) :=
  ⟨fun pins s σ H Q I hq => (pe_lc2 (te := tE X f) (tt := tT X t) (g := tG X [] tv g) (wi1 := tIt X fi1) (tt1 := tT X t1) (g1 := tG X [] vs1 g1) hc hN hi ok hv hg ht hi1 hg1 ht1 he hs hs1).run pins s σ H Q I (lc2_read hq htv hv fun _ h => h)⟩
theorem zs_setLc2 {i : Nat} {y : Str} {py spos : Pos} {pr : List Nat} {elt tg iter tg1 iter1 : Expr} {ifs ifs1 : List Expr} {scope : Scope} {own : List (Str × Nat)} {tv vs1 : List Nat} {fi fi1 : MIt} {g g1 : SG} {t t1 : MB} (hc : X.calm = true) (hN : X.N.Nodup) (hy : X.N[i]? = some y) (hyl : X.env.scope.names.lookup y = some .local)
    (hsw : swapsWith (.ListComp elt [⟨tg, iter, ifs, 0⟩, ⟨tg1, iter1, ifs1, 0⟩] scope pos) (some (.Name y py)) spos.line X.env = pure true) (hi : PI X tg iter (tIt X fi)) (ok : BlkOk X.N X.env.scope scope own) (hv : ∀ i ∈ vs1, i ∈ own.map (·.2))
    (hg : ∀ (s : Shared) (H : Hp) (C : Addr) (cl : List (Str × Addr)) (fp : List Addr), PG (X.blk s H scope (compEnvC scope cl C X.env) fp) tg (tG (X.blk s H scope (compEnvC scope cl C X.env) fp) [] tv g))
    (ht : ∀ (s : Shared) (H : Hp) (C : Addr) (cl : List (Str × Addr)) (fp : List Addr), PTs (X.blk s H scope (compEnvC scope cl C X.env) fp) ifs (tT (X.blk s H scope (compEnvC scope cl C X.env) fp) t))
    (hi1 : ∀ (s : Shared) (H : Hp) (C : Addr) (cl : List (Str × Addr)) (fp : List Addr), PI (X.blk s H scope (compEnvC scope cl C X.env) fp) tg1 iter1 (tIt (X.blk s H scope (compEnvC scope cl C X.env) fp) fi1))
    (hg1 : ∀ (s : Shared) (H : Hp) (C : Addr) (cl : List (Str × Addr)) (fp : List Addr), PG (X.blk s H scope (compEnvC scope cl C X.env) fp) tg1 (tG (X.blk s H scope (compEnvC scope cl C X.env) fp) [] vs1 g1))
    (ht1 : ∀ (s : Shared) (H : Hp) (C : Addr) (cl : List (Str × Addr)) (fp : List Addr), PTs (X.blk s H scope (compEnvC scope cl C X.env) fp) ifs1 (tT (X.blk s H scope (compEnvC scope cl C X.env) fp) t1))
    (he : ∀ (s : Shared) (H : Hp) (C : Addr) (cl : List (Str × Addr)) (fp : List Addr), PE (X.blk s H scope (compEnvC scope cl C X.env) fp) elt (tE (X.blk s H scope (compEnvC scope cl C X.env) fp) f))
    (hs : ∀ x, foldedSetIterable iter X.env x = pure x) (hs1 : ∀ env x, foldedSetIterable iter1 env x = pure x) (htv : ∀ i ∈ tv, i ∈ own.map (·.2)) : PS X (.Assign [.Name y py] (.ListComp elt [⟨tg, iter, ifs, 0⟩, ⟨tg1, iter1, ifs1, 0⟩] scope pos) spos) (tS X pr (sSet pr i (eLc2 (own.map (·.2)) vs1 fi g t fi1 g1 t1 f))) := by
  refine ⟨fun pins s σ H Dd I hq => (ps_setLc2 (te := tE X f) (tt := tT X t) (g := tG X [] tv g) (wi1 := tIt X fi1) (tt1 := tT X t1) (g1 := tG X [] vs1 g1) hc hN hy hyl hsw hi ok hv hg ht hi1 hg1 ht1 he hs hs1).run pins s σ H Dd I ?_⟩
  obtain ⟨c, E, ρ, out, ρ', hK, hp, hR, hf, q⟩ := hq
  unfold sSet at hf
  split at hf
  · cases hf
  · rename_i np
    obtain ⟨⟨rv, ρ1⟩, h1, hf⟩ := bindS hf
    cases hf
    exact lc2_read (tv := tv) (tv1 := vs1) ⟨c, E, ρ, rv, ρ1, hK, hR, h1, fun z H1 P1 => q _ H1 (post_set hR P1 (by rw [hp]; exact ncont np))⟩ htv hv fun _ h => h
theorem zts_nil : PTs X [] (tT X bYes) := by
  refine ⟨fun pins s σ H Q I hq => pts_nil.run pins s σ H Q I ?_⟩
  obtain ⟨c, E, ρ, b, ρ', hK, hR, hf, q⟩ := hq
  cases hf
  exact q H ⟨Stp.rfl, hR⟩
/-! lists that grow and shrink -/
def lastD (ds : List D) : Option D := ds[ds.length - 1]?
def eApp (i : Nat) (f : ME) : ME := fun ρ => match slot ρ i with
  | some (.list _) => (f ρ).bind fun r => match r.2[i]? with
    | some (some (.o (.list ds))) => if decide (ds.length < 16777216) then some (.v .none, r.2.set i (some (.o (.list (ds ++ [r.1.d]))))) else none
    | _ => none
  | _ => none
def ePop (i : Nat) : ME := fun ρ => match ρ[i]? with
  | some (some (.o (.list ds))) => (lastD ds).bind fun d => some (.v d, ρ.set i (some (.o (.list ds.dropLast))))
  | _ => none
theorem Reps.dropLast {K : PySem.W.Frag} {H : Hp} {O : AS} {ds : List D} {vs : List V} (r : Reps K H O ds vs) : Reps K H O ds.dropLast vs.dropLast := by
  rw [List.dropLast_eq_take, List.dropLast_eq_take, ← r.length]
  exact r.take _
theorem zpe_app {i : Nat} {o : Expr} {apos : Pos} (ho : PE X o (tVar i)) (ha : PE X a (tE X f)) (hbase : attributeBase o "append" X.env (eval o X.env) = eval o X.env)
    (hfew : ((backTo pos (starEach [a] X.env)).all (fun x => !x.1) && (backToKw pos (keywordEach [] X.env)).all (fun x => x.1.isSome)
      && decide (([a] : List Expr).length + ([] : List Keyword).length + (if ([] : List Keyword).isEmpty then 0 else 1) < 30)) = true)
    (hline : (apos.endLine == pos.line) = true) (hs : starEach [a] X.env = (false, eval a X.env) :: starEach [] X.env) (hplain : (backTo pos (starEach [] X.env)).any (·.1) = false) :
    PE X (.Call (.Attribute o "append" apos) [a] [] pos) (tE X (eApp i f)) := by
  refine ⟨fun pins s σ H Q I hq => (pe_bm PySem.F.plainAttrs_list PySem.F.slot_list_append PySem.F.type_list_append mt_append ho (pa_cons ha pa_nil hs) hbase hfew hline hs hplain).run pins s σ H Q I ?_⟩
  obtain ⟨c, E, ρ, rv, ρ', hK, hR, hf, q⟩ := hq
  unfold eApp at hf
  split at hf
  · rename_i ds0 h0
    obtain ⟨z, hz⟩ := hR.slot_some h0
    obtain ⟨⟨r1, ρ1⟩, h1, hf⟩ := bindS hf
    split at hf
    · rename_i ds hds
      split at hf
      · rename_i hz2
        cases hf
        have t0 := hR.top h0 hz
        obtain ⟨a0, vs0, rfl, sq0, _⟩ := t0.list
        refine ⟨_, hz, .inl ⟨rfl, vs0, by rw [← hK]; exact sq0⟩, c, E, ρ, r1, ρ1, hK, hR, h1, fun y H1 P1 => ?_⟩
        obtain ⟨s1, R1, v1⟩ := P1.pv hR
        obtain ⟨x, x1, ⟨vs, x2, x3⟩, _⟩ := R1.own i _ hds
        rw [hz] at x1
        cases x1
        refine ⟨a0, vs, y, rfl, rfl, x2, by rw [sizeLine_eq, ← x3.length]; exact of_decide_eq_true hz2, ?_⟩
        have k := keeps_upd (c := c) (E := E) (H := H1) (o := .lst (vs ++ [y])) ⟨i, _, hds, hz⟩
        obtain ⟨R2, s2⟩ := R1.chg (d' := .list (ds ++ [r1.d])) (H' := upd H1 a0 (.lst (vs ++ [y]))) hds hz (fun b o hb w => by rw [upd_ne hb]; exact w)
          ⟨_, upd_same, (x3.mono k).append (.cons (v1.mono k) .nil)⟩
        exact q _ _ ⟨s1.trans s2, R2, .non⟩
      · cases hf
    · cases hf
  · cases hf
theorem zpe_pop {i : Nat} {o : Expr} {apos : Pos} (ho : PE X o (tVar i)) (hbase : attributeBase o "pop" X.env (eval o X.env) = eval o X.env) (hline : (apos.endLine == pos.line) = true) :
    PE X (.Call (.Attribute o "pop" apos) [] [] pos) (tE X (ePop i)) := by
  refine ⟨fun pins s σ H Q I hq => (pe_bm0 PySem.F.plainAttrs_list PySem.F.slot_list_pop PySem.F.type_list_pop mt_pop ho hbase hline).run pins s σ H Q I ?_⟩
  obtain ⟨c, E, ρ, rv, ρ', hK, hR, hf, q⟩ := hq
  unfold ePop at hf
  split at hf
  · rename_i ds hds
    obtain ⟨d, h1, hf⟩ := bindS hf
    cases hf
    obtain ⟨a0, hz, ⟨vs, x2, x3⟩, _⟩ := hR.own i _ hds
    unfold lastD at h1
    obtain ⟨y, y1, y2⟩ := x3.get h1
    refine ⟨_, hz, .inl ⟨rfl, vs, .inl (.inl x2)⟩, a0, vs, y, rfl, rfl, x2, by rw [← x3.length]; exact y1, ?_⟩
    have k := keeps_upd (c := c) (E := E) (H := H) (o := .lst vs.dropLast) ⟨i, _, hds, hz⟩
    obtain ⟨R2, s2⟩ := hR.chg (d' := .list ds.dropLast) (H' := upd H a0 (.lst vs.dropLast)) hds hz (fun b o hb w => by rw [upd_ne hb]; exact w)
      ⟨_, upd_same, (x3.mono k).dropLast⟩
    exact q _ _ ⟨s2, R2, y2.mono s2.keeps⟩
  · cases hf
def ePopAt (i : Nat) (f : ME) : ME := fun ρ => match slot ρ i with
  | some (.list _) => (f ρ).bind fun r => (asI r.1).bind fun j => match r.2[i]? with
    | some (some (.o (.list ds))) => if in62 j then (seqIndex? j ds.length).bind fun k => ds[k]?.bind fun d => some (.v d, r.2.set i (some (.o (.list (ds.eraseIdx k))))) else none
    | _ => none
  | _ => none
theorem Reps.erase {K : PySem.W.Frag} {H : Hp} {O : AS} : ∀ {ds : List D} {vs : List V} (k : Nat), Reps K H O ds vs → Reps K H O (ds.eraseIdx k) (vs.eraseIdx k)
  | _, _, _, .nil => .nil
  | _, _, 0, .cons _ t => t
  | _, _, k + 1, .cons a t => .cons a (Reps.erase k t)
theorem zpe_popAt {i : Nat} {o : Expr} {apos : Pos} (ho : PE X o (tVar i)) (ha : PE X a (tE X f)) (hbase : attributeBase o "pop" X.env (eval o X.env) = eval o X.env)
    (hfew : ((backTo pos (starEach [a] X.env)).all (fun x => !x.1) && (backToKw pos (keywordEach [] X.env)).all (fun x => x.1.isSome)
      && decide (([a] : List Expr).length + ([] : List Keyword).length + (if ([] : List Keyword).isEmpty then 0 else 1) < 30)) = true)
    (hline : (apos.endLine == pos.line) = true) (hs : starEach [a] X.env = (false, eval a X.env) :: starEach [] X.env) (hplain : (backTo pos (starEach [] X.env)).any (·.1) = false) :
    PE X (.Call (.Attribute o "pop" apos) [a] [] pos) (tE X (ePopAt i f)) := by
  refine ⟨fun pins s σ H Q I hq => (pe_bm PySem.F.plainAttrs_list PySem.F.slot_list_pop PySem.F.type_list_pop mt_popAt ho (pa_cons ha pa_nil hs) hbase hfew hline hs hplain).run pins s σ H Q I ?_⟩
  obtain ⟨c, E, ρ, rv, ρ', hK, hR, hf, q⟩ := hq
  unfold ePopAt at hf
  split at hf
  · rename_i ds0 h0
    obtain ⟨z, hz⟩ := hR.slot_some h0
    obtain ⟨⟨r1, ρ1⟩, h1, hf⟩ := bindS hf
    obtain ⟨j, hj, hf⟩ := bindS hf
    split at hf
    · rename_i ds hds
      split at hf
      · rename_i hc
        obtain ⟨k, hk, hf⟩ := bindS hf
        obtain ⟨d, hd, hf⟩ := bindS hf
        cases hf
        have t0 := hR.top h0 hz
        obtain ⟨a0, vs0, rfl, sq0, _⟩ := t0.list
        have ej := asI_ok hj
        subst ej
        refine ⟨_, hz, .inl ⟨rfl, vs0, by rw [← hK]; exact sq0⟩, c, E, ρ, .v (.int j), ρ1, hK, hR, h1, fun y H1 P1 => ?_⟩
        obtain ⟨s1, R1, v1⟩ := P1.v
        cases v1
        obtain ⟨x, x1, ⟨vs, x2, x3⟩, _⟩ := R1.own i _ hds
        rw [hz] at x1
        cases x1
        have hl := x3.length
        obtain ⟨y, y1, y2⟩ := x3.get hd
        have hc : j.natAbs < 4611686018427387904 := of_decide_eq_true hc
        refine ⟨a0, vs, j, k, y, rfl, rfl, x2, by omega, by omega, by rw [← hl]; exact hk, y1, ?_⟩
        have kp := keeps_upd (c := c) (E := E) (H := H1) (o := .lst (vs.eraseIdx k)) ⟨i, _, hds, hz⟩
        obtain ⟨R2, s2⟩ := R1.chg (d' := .list (ds.eraseIdx k)) (H' := upd H1 a0 (.lst (vs.eraseIdx k))) hds hz (fun b o hb w => by rw [upd_ne hb]; exact w)
          ⟨_, upd_same, (x3.mono kp).erase k⟩
        exact q _ _ ⟨s1.trans s2, R2, y2.mono s2.keeps⟩
      · cases hf
    · cases hf
  · cases hf
/-- the first place of an equal one -/
def fstEq : List D → D → Option Nat
  | [], _ => none
  | z :: r, d => if PyData.eqv z d then some 0 else (fstEq r d).map (· + 1)
theorem fstEq_ok {d : D} : ∀ {ds : List D} {j : Nat}, fstEq ds d = some j → ∃ z, ds[j]? = some z ∧ PyData.eqv z d = true ∧ ∀ (m : Nat) (z' : D), m < j → ds[m]? = some z' → PyData.eqv z' d = false
  | [], _, h => by cases h
  | z :: r, j, h => by
    rw [fstEq] at h
    split at h
    · rename_i q
      cases h
      exact ⟨z, rfl, q, fun m _ hm => absurd hm (by omega)⟩
    · rename_i q
      cases k : fstEq r d with
      | none => rw [k] at h; cases h
      | some i =>
        rw [k] at h
        cases h
        obtain ⟨w, h1, h2, h3⟩ := fstEq_ok k
        refine ⟨w, by rw [List.getElem?_cons_succ]; exact h1, h2, fun m z' hm e => ?_⟩
        cases m with
        | zero =>
          rw [List.getElem?_cons_zero] at e
          cases e
          exact Bool.eq_false_iff.mpr q
        | succ m =>
          rw [List.getElem?_cons_succ] at e
          exact h3 m z' (Nat.lt_of_succ_lt_succ hm) e
def valV : RV → Option D
  | .v d => some d
  | .o _ => none
theorem valV_ok {rv : RV} {d : D} (h : valV rv = some d) : rv = .v d := by
  cases rv with
  | v x => cases h; rfl
  | o x => cases h
def eIdx (i : Nat) (f : ME) : ME := fun ρ => match slot ρ i with
  | some (.list _) => (f ρ).bind fun r => (valV r.1).bind fun k => match slot r.2 i with
    | some (.list ds) => if okE k && okE (.list ds) then (fstEq ds k).bind fun j => some (.v (.int (j : Nat)), r.2) else none
    | _ => none
  | _ => none
theorem zpe_idx (hu : X.A.units + 66 < cLine) {i : Nat} {o : Expr} {apos : Pos} (ho : PE X o (tVar i)) (ha : PE X a (tE X f)) (hbase : attributeBase o "index" X.env (eval o X.env) = eval o X.env)
    (hfew : ((backTo pos (starEach [a] X.env)).all (fun x => !x.1) && (backToKw pos (keywordEach [] X.env)).all (fun x => x.1.isSome)
      && decide (([a] : List Expr).length + ([] : List Keyword).length + (if ([] : List Keyword).isEmpty then 0 else 1) < 30)) = true)
    (hline : (apos.endLine == pos.line) = true) (hs : starEach [a] X.env = (false, eval a X.env) :: starEach [] X.env) (hplain : (backTo pos (starEach [] X.env)).any (·.1) = false) :
    PE X (.Call (.Attribute o "index" apos) [a] [] pos) (tE X (eIdx i f)) := by
  refine ⟨fun pins s σ H Q I hq => (pe_bm PySem.F.plainAttrs_list PySem.F.slot_list_index PySem.F.type_list_index (mt_indexD (X := X) (Nat.lt_of_succ_lt hu)) ho (pa_cons ha pa_nil hs) hbase hfew hline hs hplain).run pins s σ H Q I ?_⟩
  obtain ⟨c, E, ρ, rv, ρ', hK, hR, hf, q⟩ := hq
  unfold eIdx at hf
  split at hf
  · rename_i ds0 h0
    obtain ⟨z, hz⟩ := hR.slot_some h0
    obtain ⟨⟨r1, ρ1⟩, h1, hf⟩ := bindS hf
    obtain ⟨k, hj, hf⟩ := bindS hf
    split at hf
    · rename_i ds hds
      split at hf
      · rename_i hc
        rw [Bool.and_eq_true] at hc
        obtain ⟨j, hk, hf⟩ := bindS hf
        cases hf
        obtain ⟨a0, vs0, rfl, sq0, _⟩ := (hR.top h0 hz).list
        have ej := valV_ok hj
        dsimp only at ej hds
        subst ej
        refine ⟨_, hz, .inl ⟨rfl, vs0, by rw [← hK]; exact sq0⟩, c, E, ρ, .v k, ρ1, hK, hR, h1, fun y H1 P1 => ?_⟩
        obtain ⟨s1, R1, v1⟩ := P1.v
        have t1 := R1.top hds hz
        obtain ⟨_, l1, d1, p1⟩ := okE_ok hc.2 t1
        obtain ⟨_, l2, d2, p2⟩ := okE_ok hc.1 (.inl v1 : Top c.K H1 (OE ρ1 σ E) k y)
        obtain ⟨w, w1, w2, w3⟩ := fstEq_ok hk
        have sh : ∀ d : D, d.canLay0 = true → d.depth ≤ 60 → SeqAt.shaped d = true := fun d a b => by
          unfold SeqAt.shaped
          rw [a, decide_eq_true (show d.depth ≤ 64 by omega)]; rfl
        exact ⟨a0, y, k, ds, j, w, rfl, rfl, by rw [← hK]; exact p1, by rw [← hK]; exact p2, sh _ l1 d1, sh _ l2 d2, w1, w2, w3, q _ _ ⟨s1, R1, .int _⟩⟩
      · cases hf
    · cases hf
  · cases hf
end
end Z
namespace Z
open PySem PySem.Spec L2
open PyProof.Rows hiding St

/-! ## values kept as they come; names stored side by side -/
def rvA : RV → AR
  | .v d => .tv d
  | .o d => .ow d
def aRv (f : ME) (g : MAs) : MAs := fun ρ => (f ρ).bind fun r => (g r.2).bind fun s => some (rvA r.1 :: s.1, s.2)
def rvOf : AR → Option RV
  | .tv d => some (.v d)
  | .ow d => some (.o d)
  | .sl _ => none
def rvsOf : List AR → Option (List RV)
  | [] => some []
  | p :: ps => (rvOf p).bind fun r => (rvsOf ps).bind fun rs => some (r :: rs)
def putRs : List Nat → List RV → Rho → Option Rho
  | [], [], ρ => some ρ
  | i :: is, rv :: rvs, ρ => putRs is rvs (ρ.set i (some rv))
  | _, _, _ => none
def sPar (pr is : List Nat) (f : MAs) : SS := fun ρ => if is.any pr.contains then none else (f ρ).bind fun r => (rvsOf r.1).bind fun rvs => (putRs is rvs r.2).bind fun ρ2 => some (.nx, ρ2)
def RsAt (K : PySem.W.Frag) (H : Hp) (O : AS) : List RV → List V → List Addr → Prop
  | [], [], [] => True
  | .v d :: ps, z :: zs, as => Rep K H O d z ∧ RsAt K H O ps zs as
  | .o d :: ps, z :: zs, a :: as => z = .ref a ∧ OwnAt K H O d a ∧ RsAt K H O ps zs as
  | _, _, _ => False
def setAll : List Nat → List V → L2.St → L2.St
  | i :: is, z :: zs, σ => setAll is zs (σ.set i (some z))
  | _, _, σ => σ
section
variable {X : Cx} {e : Expr} {es : List Expr} {f : ME} {g : MAs} {pos : Pos}
theorem za_rv (ha : PE X e (tE X f)) (hr : PA X es (tAs X g)) (hs : starEach (e :: es) X.env = (false, eval e X.env) :: starEach es X.env) : PA X (e :: es) (tAs X (aRv f g)) := by
  refine ⟨fun pos pins s σ H Q I hq => ?_⟩
  obtain ⟨c, E, ρ, p, ρ', hK, hR, hf, q⟩ := hq
  obtain ⟨⟨rv, ρ1⟩, h1, hf2⟩ := bindS hf
  cases rv with
  | v d => exact (za_tv ha hr hs).run pos pins s σ H Q I ⟨c, E, ρ, p, ρ', hK, hR, by unfold aTv; rw [h1]; exact hf2, q⟩
  | o d => exact (za_ow ha hr hs).run pos pins s σ H Q I ⟨c, E, ρ, p, ρ', hK, hR, by unfold aOw; rw [h1]; exact hf2, q⟩
theorem RsAt.mono {K : PySem.W.Frag} {H : Hp} {O O' : AS} (k : Keeps H O H O') : ∀ {ps : List RV} {zs : List V} {as : List Addr}, RsAt K H O ps zs as → RsAt K H O' ps zs as
  | [], [], [], _ => True.intro
  | .v d :: ps, z :: zs, as, h => ⟨h.1.mono k, RsAt.mono k h.2⟩
  | .o d :: ps, z :: zs, a :: as, h => ⟨h.1, h.2.1.mono k (fun _ q => q), RsAt.mono k h.2.2⟩
  | [], [], _ :: _, h => by cases h
  | [], _ :: _, _, h => by cases h
  | .v _ :: _, [], _, h => by cases h
  | .o _ :: _, [], _, h => by cases h
  | .o _ :: _, _ :: _, [], h => by cases h
theorem rs_at {c : Cn} {E : AS} {ρ : Rho} {σ : L2.St} {H : Hp} : ∀ {ps : List AR} {zs : List V} {as : List Addr} {rvs : List RV}, ArAt c E ρ σ H ps zs as → rvsOf ps = some rvs → RsAt c.K H (OE ρ σ E) rvs zs as
  | [], [], [], rvs, _, e => by cases e; exact True.intro
  | .tv d :: ps, z :: zs, as, rvs, h, e => by
    obtain ⟨r, e1, e⟩ := bindS e
    obtain ⟨rs, e2, e⟩ := bindS e
    cases e1; cases e
    exact ⟨h.1, rs_at h.2 e2⟩
  | .ow d :: ps, z :: zs, a :: as, rvs, h, e => by
    obtain ⟨r, e1, e⟩ := bindS e
    obtain ⟨rs, e2, e⟩ := bindS e
    cases e1; cases e
    exact ⟨h.1, h.2.1, rs_at h.2.2 e2⟩
  | .sl i :: ps, zs, as, rvs, h, e => by
    obtain ⟨r, e1, e⟩ := bindS e
    cases e1
  | [], [], _ :: _, _, h, _ => by cases h
  | [], _ :: _, _, _, h, _ => by cases h
  | .tv _ :: _, [], _, _, h, _ => by cases h
  | .ow _ :: _, [], _, _, h, _ => by cases h
  | .ow _ :: _, _ :: _, [], _, h, _ => by cases h
theorem Add_AddL {E : AS} {a : Addr} {as : List Addr} : Add (AddL E as) a = AddL E (a :: as) := by
  funext b; apply propext; constructor
  · rintro ((h | h) | h)
    · exact .inl h
    · exact .inr (List.mem_cons_of_mem _ h)
    · exact .inr (by rw [h]; exact List.mem_cons_self)
  · rintro (h | h)
    · exact .inl (.inl h)
    · rcases List.mem_cons.mp h with h | h
      · exact .inr h
      · exact .inl (.inr h)
theorem put_rs {c : Cn} {E : AS} {H : Hp} : ∀ {is : List Nat} {rvs : List RV} {zs : List V} {as : List Addr} {ρ ρ2 : Rho} {σ : L2.St}, R c (AddL E as) ρ σ H → RsAt c.K H (OE ρ σ (AddL E as)) rvs zs as → (∀ a ∈ as, ¬ E a ∧ c.H0 a = none) → as.Nodup → (∀ i ∈ is, i ∉ c.pr) → putRs is rvs ρ = some ρ2 →
    R c E ρ2 (setAll is zs σ) H ∧ ∀ b, OwnS ρ2 (setAll is zs σ) b → b ∈ as ∨ OwnS ρ σ b
  | [], [], [], [], ρ, ρ2, σ, r, _, _, _, _, e => by
    cases e
    rw [AddL_nil] at r
    exact ⟨r, fun b h => .inr h⟩
  | i :: is, .v d :: rvs, z :: zs, as, ρ, ρ2, σ, r, h, ha, nd, np, e => by
    obtain ⟨r1, s1⟩ := r.setV (i := i) h.1 (np i List.mem_cons_self)
    obtain ⟨g1, g2⟩ := put_rs r1 (h.2.mono s1.keeps) ha nd (fun j hj => np j (List.mem_cons_of_mem _ hj)) e
    refine ⟨g1, fun b hb => ?_⟩
    rcases g2 b hb with q | q
    · exact .inl q
    · obtain ⟨o, ho⟩ := r1.own_there q
      exact .inr (s1.own b o ho q)
  | i :: is, .o d :: rvs, z :: zs, a :: as, ρ, ρ2, σ, r, h, ha, nd, np, e => by
    obtain ⟨h1, h2, h3⟩ := h
    subst h1
    have nd' := List.nodup_cons.mp nd
    have r : R c (Add (AddL E as) a) ρ σ H := by rw [Add_AddL]; exact r
    obtain ⟨r1, s1⟩ := r.setO (i := i) (d := d) (by rw [Add_AddL]; exact h2) (fun y => y.elim (ha a List.mem_cons_self).1 nd'.1) (ha a List.mem_cons_self).2 (np i List.mem_cons_self)
    have k : Keeps H (OE ρ σ (AddL E (a :: as))) H (OE (ρ.set i (some (.o d))) (σ.set i (some (.ref a))) (AddL E as)) := fun b o q n => ⟨q, fun y => n (by
      rcases y with (y | y) | y
      · exact .inl (.inl y)
      · exact .inl (.inr (List.mem_cons_of_mem _ y))
      · rcases s1 b y with y | y
        · exact .inl (.inr (by rw [y]; exact List.mem_cons_self))
        · exact .inr y)⟩
    obtain ⟨g1, g2⟩ := put_rs r1 (h3.mono k) (fun b hb => ha b (List.mem_cons_of_mem _ hb)) nd'.2 (fun j hj => np j (List.mem_cons_of_mem _ hj)) e
    refine ⟨g1, fun b hb => ?_⟩
    rcases g2 b hb with q | q
    · exact .inl (List.mem_cons_of_mem _ q)
    · rcases s1 b q with q | q
      · exact .inl (by rw [q]; exact List.mem_cons_self)
      · exact .inr q
  | [], _ :: _, _, _, _, _, _, _, _, _, _, _, e => by cases e
  | _ :: _, [], _, _, _, _, _, _, _, _, _, _, e => by cases e
  | [], [], _ :: _, _, _, _, _, _, h, _, _, _, _ => by cases h
  | [], [], [], _ :: _, _, _, _, _, h, _, _, _, _ => by cases h
  | _ :: _, .v _ :: _, [], _, _, _, _, _, h, _, _, _, _ => by cases h
  | _ :: _, .o _ :: _, [], _, _, _, _, _, h, _, _, _, _ => by cases h
  | _ :: _, .o _ :: _, _ :: _, [], _, _, _, _, h, _, _, _, _ => by cases h
theorem rs_len {K : PySem.W.Frag} {H : Hp} {O : AS} : ∀ {ps : List RV} {zs : List V} {as : List Addr}, RsAt K H O ps zs as → ps.length = zs.length
  | [], [], [], _ => rfl
  | .v d :: ps, z :: zs, as, h => by simp [rs_len h.2]
  | .o d :: ps, z :: zs, a :: as, h => by simp [rs_len h.2.2]
  | [], [], _ :: _, h => by cases h
  | [], _ :: _, _, h => by cases h
  | .v _ :: _, [], _, h => by cases h
  | .o _ :: _, [], _, h => by cases h
  | .o _ :: _, _ :: _, [], h => by cases h
theorem putRs_len : ∀ {is : List Nat} {rvs : List RV} {ρ ρ2 : Rho}, putRs is rvs ρ = some ρ2 → is.length = rvs.length
  | [], [], _, _, _ => rfl
  | _ :: is, _ :: rvs, _, _, h => by simp [putRs_len (is := is) (rvs := rvs) h]
  | [], _ :: _, _, _, h => by cases h
  | _ :: _, [], _, _, h => by cases h
theorem par_read {pr is : List Nat} {f : MAs} {Dd : Ends} {σ : L2.St} {H : Hp} (hq : tS X pr (sPar pr is f) Dd σ H) : tAs X f σ H fun zs H1 => zs.length = is.length ∧ Dd.nx (setAll is zs σ) H1 := by
  obtain ⟨c, E, ρ, out, ρ', hK, hp, hR, hf, q⟩ := hq
  unfold sPar at hf
  split at hf
  · cases hf
  · rename_i np
    obtain ⟨⟨ps, ρ1⟩, h1, hf⟩ := bindS hf
    obtain ⟨rvs, h2, hf⟩ := bindS hf
    obtain ⟨ρ2, h3, hf⟩ := bindS hf
    cases hf
    refine ⟨c, E, ρ, ps, ρ1, hK, hR, h1, fun zs as H1 ⟨s1, r1, a1, n1, nd⟩ => ?_⟩
    have ra := rs_at a1 h2
    have np' : ∀ i ∈ is, i ∉ c.pr := fun i hi hj => np (List.any_eq_true.mpr ⟨i, hi, by rw [hp] at hj; simpa using hj⟩)
    obtain ⟨g1, g2⟩ := put_rs r1 ra (fun a ha => PostE.nE (ρ1 := ρ1) (H1 := H1) hR (n1 a ha)) nd np' h3
    refine ⟨by rw [← rs_len ra]; exact (putRs_len h3).symm, q _ H1 ⟨⟨s1.keep, s1.all, fun b o hb y => ?_⟩, g1⟩⟩
    rcases g2 b y with y | y
    · rw [n1 b y] at hb; cases hb
    · exact s1.own b o hb y
theorem zs_par {i j : Nat} {x y : Str} {a b : Expr} {f : MAs} {pr : List Nat} {px py pt : Pos} {kt k2 : Nat} {pt2 : Pos} (hc : X.calm = true) (hN : X.N.Nodup) (hi : X.N[i]? = some x) (hj : X.N[j]? = some y) (hij : i ≠ j)
    (hx : X.env.scope.names.lookup x = some .local) (hy : X.env.scope.names.lookup y = some .local) (ha : PA X [a, b] (tAs X f))
    (hw : swappedStores [.Tuple [.Name x px, .Name y py] kt pt] (.Tuple [a, b] k2 pt2) X.env = pure (some [x, y])) :
    PS X (.Assign [.Tuple [.Name x px, .Name y py] kt pt] (.Tuple [a, b] k2 pt2) pos) (tS X pr (sPar pr [i, j] f)) := by
  refine ⟨fun pins s σ H Dd I hq => (ps_par hc hN hi hj hij hx hy ha hw rfl).run pins s σ H Dd I ?_⟩
  obtain ⟨c, E, ρ, ps, ρ1, hK, hR, h1, h2⟩ := par_read hq
  refine ⟨c, E, ρ, ps, ρ1, hK, hR, h1, fun zs as H1 p => ?_⟩
  obtain ⟨l, n⟩ := h2 zs as H1 p
  match zs, l, n with
  | [v, w], _, n => exact ⟨v, w, rfl, n⟩
theorem zs_par3 {i j l : Nat} {x y z : Str} {a b c : Expr} {f : MAs} {pr : List Nat} {px py pz pt : Pos} {kt k2 : Nat} {pt2 : Pos} (hc : X.calm = true) (hN : X.N.Nodup) (hi : X.N[i]? = some x) (hj : X.N[j]? = some y) (hl : X.N[l]? = some z) (hij : i ≠ j) (hil : i ≠ l) (hjl : j ≠ l)
    (hx : X.env.scope.names.lookup x = some .local) (hy : X.env.scope.names.lookup y = some .local) (hz : X.env.scope.names.lookup z = some .local) (ha : PA X [a, b, c] (tAs X f))
    (hw : swappedStores [.Tuple [.Name x px, .Name y py, .Name z pz] kt pt] (.Tuple [a, b, c] k2 pt2) X.env = pure (some [x, y, z])) :
    PS X (.Assign [.Tuple [.Name x px, .Name y py, .Name z pz] kt pt] (.Tuple [a, b, c] k2 pt2) pos) (tS X pr (sPar pr [i, j, l] f)) := by
  refine ⟨fun pins s σ H Dd I hq => (ps_par3 hc hN hi hj hl hij hil hjl hx hy hz ha hw rfl).run pins s σ H Dd I ?_⟩
  obtain ⟨c, E, ρ, ps, ρ1, hK, hR, h1, h2⟩ := par_read hq
  refine ⟨c, E, ρ, ps, ρ1, hK, hR, h1, fun zs as H1 p => ?_⟩
  obtain ⟨l, n⟩ := h2 zs as H1 p
  match zs, l, n with
  | [v, w, u], _, n => exact ⟨v, w, u, rfl, n⟩
end

/-! four names at once: the tuple is made, then taken apart -/
section
variable {X : Cx}
theorem par_read_tup {pr is : List Nat} {f : MAs} {Dd : Ends} {σ : L2.St} {H : Hp} (hq : tS X pr (sPar pr is f) Dd σ H) : tAs X f σ H fun zs H1 => zs.length = is.length ∧ ∀ p, H1 p = none → Dd.nx (setAll is zs σ) (upd H1 p (.tup zs)) := by
  obtain ⟨c, E, ρ, out, ρ', hK, hp, hR, hf, q⟩ := hq
  unfold sPar at hf
  split at hf
  · cases hf
  · rename_i np
    obtain ⟨⟨ps, ρ1⟩, h1, hf⟩ := bindS hf
    obtain ⟨rvs, h2, hf⟩ := bindS hf
    obtain ⟨ρ2, h3, hf⟩ := bindS hf
    cases hf
    refine ⟨c, E, ρ, ps, ρ1, hK, hR, h1, fun zs as H1 ⟨s1, r1, a1, n1, nd⟩ => ?_⟩
    have ra := rs_at a1 h2
    have np' : ∀ i ∈ is, i ∉ c.pr := fun i hi hj => np (List.any_eq_true.mpr ⟨i, hi, by rw [hp] at hj; simpa using hj⟩)
    obtain ⟨g1, g2⟩ := put_rs r1 ra (fun a ha => PostE.nE (ρ1 := ρ1) (H1 := H1) hR (n1 a ha)) nd np' h3
    refine ⟨by rw [← rs_len ra]; exact (putRs_len h3).symm, fun p np => q _ _ ⟨⟨fun b o hb y => Grow.upd np b o (s1.keep b o hb y), fun b o hb => ?_, fun b o hb y => ?_⟩, g1.grow (Grow.upd np)⟩⟩
    · obtain ⟨o2, h⟩ := s1.all b o hb
      exact ⟨o2, Grow.upd np b o2 h⟩
    · rcases g2 b y with y | y
      · rw [n1 b y] at hb; cases hb
      · exact s1.own b o hb y
theorem zs_par4 {i j l m : Nat} {x y z w : Str} {a b c d : Expr} {f : MAs} {pr : List Nat} {px py pz pw pt : Pos} {kt k2 : Nat} {pt2 pos : Pos} (hc : X.calm = true) (hN : X.N.Nodup) (hi : X.N[i]? = some x) (hj : X.N[j]? = some y) (hl : X.N[l]? = some z) (hm : X.N[m]? = some w)
    (hx : X.env.scope.names.lookup x = some .local) (hy : X.env.scope.names.lookup y = some .local) (hz : X.env.scope.names.lookup z = some .local) (hww : X.env.scope.names.lookup w = some .local) (ha : PA X [a, b, c, d] (tAs X f))
    (hw : swappedStores [.Tuple [.Name x px, .Name y py, .Name z pz, .Name w pw] kt pt] (.Tuple [a, b, c, d] k2 pt2) X.env = pure none) :
    PS X (.Assign [.Tuple [.Name x px, .Name y py, .Name z pz, .Name w pw] kt pt] (.Tuple [a, b, c, d] k2 pt2) pos) (tS X pr (sPar pr [i, j, l, m] f)) := by
  have p1 := pg_name (X := X) (pos := px) hN hi (.inl hx) (.inr hx)
  have p2 := pg_name (X := X) (pos := py) hN hj (.inl hy) (.inr hy)
  have p3 := pg_name (X := X) (pos := pz) hN hl (.inl hz) (.inr hz)
  have p4 := pg_name (X := X) (pos := pw) hN hm (.inl hww) (.inr hww)
  refine ⟨fun pins s σ H Dd I hq => (ps_asg (pe_tup ha) (pg_tup (n := 4) hc (pgs_cons p1 (pgs_cons p2 (pgs_cons p3 (pgs_cons p4 pgs_nil))))) rfl hw).run pins s σ H Dd I ?_⟩
  obtain ⟨c, E, ρ, ps, ρ1, hK, hR, h1, h2⟩ := par_read_tup hq
  refine ⟨c, E, ρ, ps, ρ1, hK, hR, h1, fun zs as H1 p => ?_⟩
  obtain ⟨l, n⟩ := h2 zs as H1 p
  match zs, l, n with
  | [v1, v2, v3, v4], _, n => exact ⟨by show 4 ≤ sizeLine; decide, fun q hq => ⟨q, [v1, v2, v3, v4], rfl, .inl (.inl upd_same), rfl, v1, _, rfl, v2, _, rfl, v3, _, rfl, v4, _, rfl, rfl, n q hq⟩⟩
/-- two names, three names, the tuple made and taken apart -/
theorem zs_par2t {i j : Nat} {x y : Str} {a b : Expr} {f : MAs} {pr : List Nat} {px py pt : Pos} {kt k2 : Nat} {pt2 pos : Pos} (hc : X.calm = true) (p1 : PG X (.Name x px) (gName i)) (p2 : PG X (.Name y py) (gName j)) (ha : PA X [a, b] (tAs X f))
    (hw : swappedStores [.Tuple [.Name x px, .Name y py] kt pt] (.Tuple [a, b] k2 pt2) X.env = pure none) :
    PS X (.Assign [.Tuple [.Name x px, .Name y py] kt pt] (.Tuple [a, b] k2 pt2) pos) (tS X pr (sPar pr [i, j] f)) := by
  refine ⟨fun pins s σ H Dd I hq => (ps_asg (pe_tup ha) (pg_tup (n := 2) hc (pgs_cons p1 (pgs_cons p2 pgs_nil))) rfl hw).run pins s σ H Dd I ?_⟩
  obtain ⟨c, E, ρ, ps, ρ1, hK, hR, h1, h2⟩ := par_read_tup hq
  refine ⟨c, E, ρ, ps, ρ1, hK, hR, h1, fun zs as H1 p => ?_⟩
  obtain ⟨l, n⟩ := h2 zs as H1 p
  match zs, l, n with
  | [v1, v2], _, n => exact ⟨by show 2 ≤ sizeLine; decide, fun q hq => ⟨q, [v1, v2], rfl, .inl (.inl upd_same), rfl, v1, _, rfl, v2, _, rfl, rfl, n q hq⟩⟩
theorem zs_par3t {i j l : Nat} {x y z : Str} {a b c : Expr} {f : MAs} {pr : List Nat} {px py pz pt : Pos} {kt k2 : Nat} {pt2 pos : Pos} (hc : X.calm = true) (p1 : PG X (.Name x px) (gName i)) (p2 : PG X (.Name y py) (gName j)) (p3 : PG X (.Name z pz) (gName l)) (ha : PA X [a, b, c] (tAs X f))
    (hw : swappedStores [.Tuple [.Name x px, .Name y py, .Name z pz] kt pt] (.Tuple [a, b, c] k2 pt2) X.env = pure none) :
    PS X (.Assign [.Tuple [.Name x px, .Name y py, .Name z pz] kt pt] (.Tuple [a, b, c] k2 pt2) pos) (tS X pr (sPar pr [i, j, l] f)) := by
  refine ⟨fun pins s σ H Dd I hq => (ps_asg (pe_tup ha) (pg_tup (n := 3) hc (pgs_cons p1 (pgs_cons p2 (pgs_cons p3 pgs_nil)))) rfl hw).run pins s σ H Dd I ?_⟩
  obtain ⟨c, E, ρ, ps, ρ1, hK, hR, h1, h2⟩ := par_read_tup hq
  refine ⟨c, E, ρ, ps, ρ1, hK, hR, h1, fun zs as H1 p => ?_⟩
  obtain ⟨l, n⟩ := h2 zs as H1 p
  match zs, l, n with
  | [v1, v2, v3], _, n => exact ⟨by show 3 ≤ sizeLine; decide, fun q hq => ⟨q, [v1, v2, v3], rfl, .inl (.inl upd_same), rfl, v1, _, rfl, v2, _, rfl, v3, _, rfl, rfl, n q hq⟩⟩
end

/-! ## list(range(..)), tuple(range(..)) -/
def mkRg (lst : Bool) (a b : Int) : Option RV := if in62 a && in62 b && szb (b - a).toNat then some (if lst then .o (.list (upTo a (b - a).toNat)) else .v (.tuple (upTo a (b - a).toNat))) else none
def eRg1 (lst : Bool) (fa : ME) : ME := fun ρ => (fa ρ).bind fun r => (asI r.1).bind fun n => (mkRg lst 0 n).bind fun z => some (z, r.2)
def eRg2 (lst : Bool) (fa fb : ME) : ME := fun ρ => (fa ρ).bind fun r => (asI r.1).bind fun m => (fb r.2).bind fun s => (asI s.1).bind fun n => (mkRg lst m n).bind fun z => some (z, s.2)
theorem reps_map {K : PySem.W.Frag} {H : Hp} {O : AS} {f : Nat → D} {g : Nat → V} (h : ∀ i, Rep K H O (f i) (g i)) : ∀ l : List Nat, Reps K H O (l.map f) (l.map g)
  | [] => .nil
  | i :: l => .cons (h i) (reps_map h l)
theorem reps_rg {K : PySem.W.Frag} {H : Hp} {O : AS} {a b : Int} : Reps K H O (upTo a (b - a).toNat) (rgV a b) := reps_map (fun i => .int _) _
section
variable {X : Cx} {a b : Expr} {fa fb : ME} {p p2 pos pos2 : Pos}
theorem int_read {c : Cn} {E : AS} {ρ ρ1 : Rho} {σ : L2.St} {H H1 : Hp} {z : V} {rv : RV} {i : Int} (h : asI rv = some i) (P : PostE c E ρ σ H ρ1 H1 rv z) : z = .int i ∧ Stp ρ σ H ρ1 σ H1 ∧ R c E ρ1 σ H1 := by
  have e := asI_ok h
  subst e
  obtain ⟨s1, r1, p1⟩ := P.v
  cases p1
  exact ⟨rfl, s1, r1⟩
theorem rg_end {lst : Bool} {c : Cn} {E : AS} {ρ ρ1 : Rho} {σ : L2.St} {H H1 : Hp} {m n : Int} {rv : RV} {Q : VK} (s1 : Stp ρ σ H ρ1 σ H1) (R1 : R c E ρ1 σ H1) (h : mkRg lst m n = some rv) (q : ∀ z H', PostE c E ρ σ H ρ1 H' rv z → Q z H') :
    RgOk m n ∧ ∀ x, H1 x = none → Q (.ref x) (upd H1 x (if lst then .lst (rgV m n) else .tup (rgV m n))) := by
  unfold mkRg at h
  split at h
  · rename_i hc
    simp only [Bool.and_eq_true] at hc
    obtain ⟨⟨c1, c2⟩, c3⟩ := hc
    obtain ⟨i1, i2⟩ := in62_ok c1
    obtain ⟨i3, i4⟩ := in62_ok c2
    cases h
    refine ⟨⟨i1, i2, i3, i4, of_decide_eq_true c3⟩, fun x nx => ?_⟩
    cases lst with
    | true => exact q _ _ (ResB.post s1 R1 (resLst reps_rg nx))
    | false => exact q _ _ (ResB.post s1 R1 (resTup (oe_there R1) reps_rg nx))
  · cases h
theorem rg1_read {lst : Bool} {σ : L2.St} {H : Hp} {Q : VK} (hq : tE X (eRg1 lst fa) σ H Q) : tRg1 (tE X fa) σ H fun m n H1 => RgOk m n ∧ ∀ x, H1 x = none → Q (.ref x) (upd H1 x (if lst then .lst (rgV m n) else .tup (rgV m n))) := by
  obtain ⟨c, E, ρ, rv, ρ', hK, hR, hf, q⟩ := hq
  obtain ⟨⟨r1, ρ1⟩, h1, hf⟩ := bindS hf
  obtain ⟨n, h2, hf⟩ := bindS hf
  obtain ⟨z, h3, hf⟩ := bindS hf
  cases hf
  refine ⟨c, E, ρ, r1, ρ1, hK, hR, h1, fun z H1 P1 => ?_⟩
  obtain ⟨rfl, s1, R1⟩ := int_read h2 P1
  exact ⟨n, rfl, rg_end s1 R1 h3 q⟩
theorem rg2_read {lst : Bool} {σ : L2.St} {H : Hp} {Q : VK} (hq : tE X (eRg2 lst fa fb) σ H Q) : tRg2 (tE X fa) (tE X fb) σ H fun m n H1 => RgOk m n ∧ ∀ x, H1 x = none → Q (.ref x) (upd H1 x (if lst then .lst (rgV m n) else .tup (rgV m n))) := by
  obtain ⟨c, E, ρ, rv, ρ', hK, hR, hf, q⟩ := hq
  obtain ⟨⟨r1, ρ1⟩, h1, hf⟩ := bindS hf
  obtain ⟨m, h2, hf⟩ := bindS hf
  obtain ⟨⟨r2, ρ2⟩, h3, hf⟩ := bindS hf
  obtain ⟨n, h4, hf⟩ := bindS hf
  obtain ⟨z, h5, hf⟩ := bindS hf
  cases hf
  refine ⟨c, E, ρ, r1, ρ1, hK, hR, h1, fun z H1 P1 => ?_⟩
  obtain ⟨rfl, s1, R1⟩ := int_read h2 P1
  refine ⟨c, E, ρ1, r2, _, hK, R1, h3, fun z H2 P2 => ?_⟩
  obtain ⟨rfl, s2, R2⟩ := int_read h4 P2
  exact ⟨m, n, rfl, rfl, rg_end (s1.trans s2) R2 h5 q⟩
theorem zpe_rg1 {lst : Bool} {T : Str} (hT : T = (if lst then ("list" : Str) else "tuple")) (hc : X.calm = true) (hg : Gl X T) (hm : X.mg T = none) (hg2 : Gl X "range") (hm2 : X.mg "range" = none) (ha : PE X a (tE X fa)) (na : starEach [a] X.env = (false, eval a X.env) :: starEach [] X.env) :
    PE X (.Call (.Name T p) [.Call (.Name "range" p2) [a] [] pos2] [] pos) (tE X (eRg1 lst fa)) := by
  cases lst with
  | true => subst hT; exact ⟨fun pins s σ H Q I hq => (pe_listRg hc hg hm (prg_1 hg2 hm2 ha na) rfl).run pins s σ H Q I (rg1_read hq)⟩
  | false => subst hT; exact ⟨fun pins s σ H Q I hq => (pe_tupRg hc hg hm (prg_1 hg2 hm2 ha na) rfl).run pins s σ H Q I (rg1_read hq)⟩
theorem zpe_rg2 {lst : Bool} {T : Str} (hT : T = (if lst then ("list" : Str) else "tuple")) (hc : X.calm = true) (hg : Gl X T) (hm : X.mg T = none) (hg2 : Gl X "range") (hm2 : X.mg "range" = none) (ha : PE X a (tE X fa)) (hb : PE X b (tE X fb))
    (na : starEach [a, b] X.env = (false, eval a X.env) :: starEach [b] X.env) (nb : starEach [b] X.env = (false, eval b X.env) :: starEach [] X.env) (hp : (backTo pos2 (starEach [b] X.env)).any (·.1) = false) :
    PE X (.Call (.Name T p) [.Call (.Name "range" p2) [a, b] [] pos2] [] pos) (tE X (eRg2 lst fa fb)) := by
  cases lst with
  | true => subst hT; exact ⟨fun pins s σ H Q I hq => (pe_listRg hc hg hm (prg_2 hg2 hm2 ha hb na nb hp) rfl).run pins s σ H Q I (rg2_read hq)⟩
  | false => subst hT; exact ⟨fun pins s σ H Q I hq => (pe_tupRg hc hg hm (prg_2 hg2 hm2 ha hb na nb hp) rfl).run pins s σ H Q I (rg2_read hq)⟩
end

/-! ## calls with keywords -/
def permL {α : Type} (xs : List α) : List Nat → Option (List α)
  | [] => some []
  | i :: is => xs[i]?.bind fun x => (permL xs is).bind fun r => some (x :: r)
def eCallK (F : FnS) (n m : Nat) (pm : List Nat) (fs gs : MOs) : ME := fun ρ => (fs ρ).bind fun r => (tvs r.1).bind fun ds => (gs r.2).bind fun s => (tvs s.1).bind fun es => (permL (ds ++ es) pm).bind fun xs =>
  if F.mask.all (fun b => !b) && decide (xs.length = F.mask.length) && decide (ds.length = n) && decide (es.length = m) then (F.run xs).bind fun w => some (w.1, s.2) else none
theorem arg_plain {K : PySem.W.Frag} {H : Hp} {O : AS} : ∀ {mask : List Bool} {ds : List D} {vs : List V}, (mask.all fun b => !b) = true → ds.length = mask.length → Reps K H O ds vs → ArgRel K H O mask ds vs []
  | [], [], _, _, _, .nil => by unfold ArgRel; exact True.intro
  | false :: ms, d :: ds, _, h, l, .cons r t => ⟨r, arg_plain (by simpa using h) (by simpa using l) t⟩
  | true :: ms, _, _, h, _, _ => by simp at h
  | [], _ :: _, _, _, l, _ => by simp at l
  | _ :: _, [], _, _, l, _ => by simp at l
theorem permL_map {K : PySem.W.Frag} {H : Hp} {O : AS} {ds : List D} {vs : List V} (r : Reps K H O ds vs) : ∀ {pm : List Nat} {xs : List D}, permL ds pm = some xs → ∃ ys, permL vs pm = some ys ∧ Reps K H O xs ys
  | [], xs, h => by cases h; exact ⟨[], rfl, .nil⟩
  | i :: pm, xs, h => by
    obtain ⟨x, e1, h⟩ := bindS h
    obtain ⟨t, e2, h⟩ := bindS h
    cases h
    obtain ⟨y, f1, f2⟩ := r.get e1
    obtain ⟨ys, f3, f4⟩ := permL_map r e2
    exact ⟨y :: ys, by unfold permL; rw [f1, f3]; rfl, .cons f2 f4⟩
theorem permL_rel {vs : List V} {us : List Value} (r : Vals vs us) : ∀ {pm : List Nat}, Vals ((permL vs pm).getD []) ((permL us pm).getD [])
  | [] => .nil
  | i :: pm => by
    have ih := permL_rel r (pm := pm)
    unfold permL
    cases hv : vs[i]? with
    | none =>
      have : us[i]? = none := by
        rw [List.getElem?_eq_none_iff] at hv ⊢
        rw [← r.length]; exact hv
      rw [this]; exact .nil
    | some v =>
      obtain ⟨u, hu, ru⟩ := r.get hv
      rw [hu]
      show Vals (((permL vs pm).bind fun r => some (v :: r)).getD []) (((permL us pm).bind fun r => some (u :: r)).getD [])
      have both : ∀ {α β : Type} {l : List α} {m : List β}, l.length = m.length → ∀ pm : List Nat, (permL l pm).isSome = (permL m pm).isSome := by
        intro α β l m hl pm
        induction pm with
        | nil => rfl
        | cons j pm ih =>
          unfold permL
          by_cases hj : j < l.length
          · rw [List.getElem?_eq_getElem hj, List.getElem?_eq_getElem (by omega)]
            show ((permL l pm).bind _).isSome = ((permL m pm).bind _).isSome
            cases h1 : permL l pm <;> cases h2 : permL m pm <;> rw [h1, h2] at ih <;> first | rfl | cases ih
          · rw [List.getElem?_eq_none (by omega), List.getElem?_eq_none (by omega)]; rfl
      have b := both (r.length) pm
      cases h1 : permL vs pm with
      | none =>
        cases h2 : permL us pm with
        | none => exact .nil
        | some y => rw [h1, h2] at b; cases b
      | some x =>
        cases h2 : permL us pm with
        | none => rw [h1, h2] at b; cases b
        | some y => rw [h1, h2] at ih; exact .cons ru ih
/-- a def's keywords: their places -/
structure KwOk (K : PySem.W.Frag) (fd : FuncData) (ps ks : List Str) (n : Nat) (pm : List Nat) : Prop where
  to : ∀ (s : Shared) (us ws xs : List Value), K.In s.heap → us.length = n → permL (us ++ ws) pm = some xs → xs.length = ps.length → ws.length = ks.length → BindsTo s fd ⟨us, ks.zip ws⟩ (ps.zip xs)
section
variable {X : Cx} {e : Expr} {es : List Expr} {kws : List Keyword} {f : ME} {fs gs : MOs} {pos p kpos : Pos} {nm : Option Str}
theorem zpk_nil : PK X [] (tOps X osNil) := by
  refine ⟨fun pos pins s σ H Q I hq => pk_nil.run pos pins s σ H Q I ?_⟩
  obtain ⟨c, E, ρ, p, ρ', hK, hR, hf, q⟩ := hq
  cases hf
  exact q [] H ⟨Stp.rfl, hR, True.intro⟩
theorem zpk_cons {fa : MO} (ha : PE X e (tOpd X fa)) (hr : PK X kws (tOps X fs)) : PK X (⟨nm, e, kpos⟩ :: kws) (tOps X (osCons fa fs)) := by
  refine ⟨fun pos pins s σ H Q I hq => (pk_cons ha hr).run pos pins s σ H Q I ?_⟩
  obtain ⟨c, E, ρ, p, ρ', hK, hR, hf, q⟩ := hq
  obtain ⟨⟨p1, ρ1⟩, h1, hf⟩ := bindS hf
  obtain ⟨⟨p2, ρ2⟩, h2, hf⟩ := bindS hf
  cases hf
  refine ⟨c, E, ρ, p1, ρ1, hK, hR, h1, fun x H1 P1 => ⟨c, E, ρ1, p2, ρ2, hK, P1.2.1, h2, fun xs H2 P2 => q _ H2 ⟨P1.1.trans P2.1, P2.2.1, ?_, P2.2.2⟩⟩⟩
  obtain ⟨_, _, P3⟩ := P1
  cases p1 with
  | tv d => exact Rep.mono P2.1.keeps P3
  | sl i => exact P3

theorem callK_read {F : FnS} {n m : Nat} {pm : List Nat} {σ : L2.St} {H : Hp} {Q : VK} (hq : tE X (eCallK F n m pm fs gs) σ H Q) :
    tOps X fs σ H fun vs H1 => tOps X gs σ H1 fun zs H2 => vs.length = n ∧ zs.length = m ∧ ∃ ys, permL (vs ++ zs) pm = some ys ∧ spF X.K F ys H2 Q E0 := by
  obtain ⟨c, E, ρ, rv, ρ', hK, hR, hf, q⟩ := hq
  obtain ⟨⟨ps, ρ1⟩, h1, hf⟩ := bindS hf
  obtain ⟨ds, h2, hf⟩ := bindS hf
  obtain ⟨⟨ps2, ρ2⟩, h3, hf⟩ := bindS hf
  obtain ⟨es2, h4, hf⟩ := bindS hf
  obtain ⟨xs, h5, hf⟩ := bindS hf
  split at hf
  · rename_i hc
    simp only [Bool.and_eq_true, decide_eq_true_eq] at hc
    obtain ⟨⟨⟨c1, c2⟩, c3⟩, c4⟩ := hc
    obtain ⟨⟨rw', outs⟩, h6, hf⟩ := bindS hf
    cases hf
    refine ⟨c, E, ρ, ps, ρ1, hK, hR, h1, fun vs H1 P1 => ⟨c, E, ρ1, ps2, ρ2, hK, P1.2.1, h3, fun zs H2 P2 => ?_⟩⟩
    have r1 := (tvs_ok P1.2.1 h2 P1.2.2).mono P2.1.keeps
    have r2 := tvs_ok P2.2.1 h4 P2.2.2
    obtain ⟨ys, e1, e2⟩ := permL_map (r1.append r2) h5
    refine ⟨by rw [← r1.length]; exact c3, by rw [← r2.length]; exact c4, ys, e1, ?_⟩
    refine ⟨OE ρ2 σ E, xs, [], _, outs, by rw [← e2.length]; exact c2, h6, oe_there P2.2.1, by rw [← hK]; exact arg_plain c1 c2 e2, List.nodup_nil, (fun a h => by cases h), fun z H' ⟨p1, p2, p3⟩ => q z H' ?_⟩
    have g : Grow H2 H' := fun b o hb => p1 b o hb (fun h => by cases h)
    have rb : ResB c.K H2 (OE ρ2 σ E) rw' H' z := by
      rw [hK]
      refine ⟨g, ?_⟩
      cases rw' with
      | v d => exact p3.1
      | o d => obtain ⟨a, e, n, o, _⟩ := p3; exact ⟨a, e, n, o⟩
    exact ResB.post (P1.1.trans P2.1) P2.2.1 rb
  · cases hf
theorem fnk_run {F : FnS} {k n : Nat} {f0 : Addr} {fd : FuncData} {ps ks : List Str} {pm : List Nat} {pins : List (Addr × Obj)} {s : Shared} {σ : L2.St} {H : Hp} {Q : VK} {us ws : List Value} {vs zs ys : List V} (Fo : FnOk X.prog X.w X.K X.mg X.base CX0 k f0 fd ps (spF X.K F)) (hr : Room k X.A) (hb : KwOk X.K fd ps ks n pm)
    (I : Inv X pins σ H s) (r : Vals vs us) (rz : Vals zs ws) (l1 : vs.length = n) (l2 : zs.length = ks.length) (e : permL (vs ++ zs) pm = some ys) (h : spF X.K F ys H Q E0) : wpAny (model X.prog X.w) X.A (call (.ref f0) us (ks.zip ws)) (EP X pins σ Q) X.xe s := by
  have rr : Vals (vs ++ zs) (us ++ ws) := r.append rz
  have r2 := permL_rel rr (pm := pm)
  rw [e] at r2
  have r2 : Vals ys ((permL (us ++ ws) pm).getD []) := r2
  have hl : ys.length = ps.length := Fo.len _ _ _ _ h
  have e2 : permL (us ++ ws) pm = some ((permL (us ++ ws) pm).getD []) := by
    cases q : permL (us ++ ws) pm with
    | some x => rfl
    | none =>
      rw [q] at r2
      cases r2
      cases pm with
      | nil => cases q
      | cons i pm => 
        unfold permL at e
        obtain ⟨x, _, e⟩ := bindS e
        obtain ⟨t, _, e⟩ := bindS e
        cases e
  refine wpAny_call (codeAny_mono (Fo.run X.A X.stack s H ⟨us, ks.zip ws⟩ _ ys Q E0 hr I.env0 (hb.to s us ws _ I.kIn (by rw [← r.length]; exact l1) e2 (by rw [← r2.length]; exact hl) (by rw [← rz.length]; exact l2)) r2 h) fun r s' hq => ?_)
  cases r with
  | error e => exact pass0 pins σ H s e s' I hq
  | ok fl =>
    cases fl with
    | ret u => exact I.after hq
    | next => exact False.elim hq
    | brk => exact False.elim hq
    | cont => exact False.elim hq
theorem zpe_callK0 {F : FnS} {k : Nat} {x : Str} {f0 : Addr} {fd : FuncData} {ps ks : List Str} {pm : List Nat} (Fo : FnOk X.prog X.w X.K X.mg X.base CX0 k f0 fd ps (spF X.K F)) (hr : Room k X.A) (hg : Gl X x) (hm : X.mg x = some (.ref f0)) (hk : PySem.W.keepIn X.K (.ref f0) = true) (hb : KwOk X.K fd ps ks 0 pm)
    (hkw : PK X kws (tOps X gs)) (hall : (backToKw pos (keywordEach kws X.env)).all (·.1.isSome) = true) (hks : (backToKw pos (keywordEach kws X.env)).filterMap (·.1) = ks) (hdb : (x == ("__debug__" : Str)) = false)
    (hpl : (backToKw pos (keywordEach kws X.env)).any (·.1.isNone) = false) : PE X (.Call (.Name x p) [] kws pos) (tE X (eCallK F 0 ks.length pm osNil gs)) := by
  refine ⟨fun pins s σ H Q I hq => ?_⟩
  obtain ⟨c, E, ρ, ps1, ρ1, hK, hR, h1, h2⟩ := callK_read hq
  cases h1
  refine wpAny_Call_Name_kw (ld_glob I hg hm ?_ hdb)
  refine PySem.W.callWith_KW0 (h₀ := X.base) I.ok.mod.kin hk hall (thn (hkw.run pos pins s σ H _ I (h2 [] H ⟨Stp.rfl, hR, True.intro⟩)) fun ws s2 ⟨zs, H2, I2, rz, q2⟩ => ⟨I2.kIn, ?_⟩) (by rw [hpl]; rfl)
  rw [hks]
  obtain ⟨l1, l2, ys, e, h⟩ := q2
  exact fnk_run (us := []) Fo hr hb I2 .nil rz l1 l2 e h
theorem zpe_callK {F : FnS} {k n : Nat} {x : Str} {f0 : Addr} {fd : FuncData} {ps ks : List Str} {pm : List Nat} (Fo : FnOk X.prog X.w X.K X.mg X.base CX0 k f0 fd ps (spF X.K F)) (hr : Room k X.A) (hg : Gl X x) (hm : X.mg x = some (.ref f0)) (hk : PySem.W.keepIn X.K (.ref f0) = true) (hb : KwOk X.K fd ps ks n pm)
    (ha : PA X (e :: es) (tOps X fs)) (hkw : PK X kws (tOps X gs)) (hall : (backToKw pos (keywordEach kws X.env)).all (·.1.isSome) = true) (hks : (backToKw pos (keywordEach kws X.env)).filterMap (·.1) = ks) (hdb : (x == ("__debug__" : Str)) = false)
    (he : starEach (e :: es) X.env = (false, eval e X.env) :: starEach es X.env) (hp : (backTo pos (starEach (e :: es) X.env)).any (·.1) = false)
    (hpl : (backToKw pos (keywordEach kws X.env)).any (·.1.isNone) = false) : PE X (.Call (.Name x p) (e :: es) kws pos) (tE X (eCallK F n ks.length pm fs gs)) := by
  refine ⟨fun pins s σ H Q I hq => ?_⟩
  have hq := callK_read hq
  refine wpAny_Call_Name_kw (ld_glob I hg hm ?_ hdb)
  refine PySem.W.callWith_KW (h₀ := X.base) I.ok.mod.kin hk hall (thn (ha.run pos pins s σ H _ I hq) fun us s1 ⟨vs, H1, I1, r, q⟩ => ?_) (by rw [hpl, hp]; rfl) he
  refine thn (hkw.run pos pins s1 σ H1 _ I1 q) fun ws s2 ⟨zs, H2, I2, rz, q2⟩ => ⟨I2.kIn, ?_⟩
  rw [hks]
  obtain ⟨l1, l2, ys, e, h⟩ := q2
  exact fnk_run Fo hr hb I2 r rz l1 l2 e h
end

/-! ## a test that chooses between two -/
def bIf (t f g : MB) : MB := fun ρ => (t ρ).bind fun r => if r.1 then f r.2 else g r.2
theorem zpt_if {X : Cx} {t a b : Expr} {pos : Pos} {bt bf bg : MB} (ht : PT X t (tT X bt)) (ha : PT X a (tT X bf)) (hb : PT X b (tT X bg)) : PT X (.IfExp t a b pos) (tT X (bIf bt bf bg)) := by
  refine ⟨fun pins s σ H Q I hq => ?_⟩
  obtain ⟨c, E, ρ, k, ρ', hK, hR, hf, q⟩ := hq
  obtain ⟨⟨k1, ρ1⟩, h1, hf⟩ := bindS hf
  have go : tT X bt σ H (fun k2 H1 => if k2 = true then tT X bf σ H1 Q else tT X bg σ H1 Q) := by
    refine ⟨c, E, ρ, k1, ρ1, hK, hR, h1, fun H1 P1 => ?_⟩
    cases k1 with
    | true => exact iteT ⟨c, E, ρ1, k, ρ', hK, P1.2, hf, fun H2 P2 => q H2 ⟨P1.1.trans P2.1, P2.2⟩⟩
    | false => exact iteF ⟨c, E, ρ1, k, ρ', hK, P1.2, hf, fun H2 P2 => q H2 ⟨P1.1.trans P2.1, P2.2⟩⟩
  refine isTrue_IfExp (thn (ht.run pins s σ H _ I go) fun k2 s1 e => ?_)
  obtain ⟨H1, I1, q1⟩ := e
  cases k2 with
  | true => exact ha.run pins s1 σ H1 Q I1 (by simpa using q1)
  | false => exact hb.run pins s1 σ H1 Q I1 (by simpa using q1)
/-! ## d.get(k), d.get(k, x) -/
def getOr (ds : List (D × D)) (k x : D) : D := match getK ds k with
  | some d => d
  | none => x
def eGet2 (i : Nat) (fk fx : ME) : ME := fun ρ => match slot ρ i with
  | some (.dict _) => (fk ρ).bind fun r => (asV r.1).bind fun k => (fx r.2).bind fun s => match slot s.2 i with
    | some (.dict ds) => if isKD k then some (.v (getOr ds k s.1.d), s.2) else none
    | _ => none
  | _ => none
def eGet1 (i : Nat) (fk : ME) : ME := fun ρ => match slot ρ i with
  | some (.dict _) => (fk ρ).bind fun r => (asV r.1).bind fun k => match slot r.2 i with
    | some (.dict ds) => if isKD k then some (.v (getOr ds k .none), r.2) else none
    | _ => none
  | _ => none
section
variable {X : Cx} {o e x : Expr} {apos cpos : Pos} {fk fx : ME} {i : Nat}
theorem isD_top {K : PySem.W.Frag} {H : Hp} {O : AS} {ds : List (D × D)} {z : V} (t : Top K H O (.dict ds) z) : ∃ a, z = .ref a ∧ IsD H a := by
  obtain ⟨a, kvs, rfl, e, _⟩ := t.dict
  exact ⟨a, rfl, .inl ⟨kvs, .inl e⟩⟩
theorem key_of_rep {K : PySem.W.Frag} {H : Hp} {O : AS} {k : L2.Key} {z : V} (r : Rep K H O (kD k) z) : z = kV k := by
  cases k with
  | inl i => cases r; rfl
  | inr i => cases r; rfl
theorem get_or {K : PySem.W.Frag} {H : Hp} {O : AS} {ds : List (D × D)} {k : L2.Key} {x : D} {a : Addr} {z : V} (t : Top K H O (.dict ds) (.ref a)) (rx : Rep K H O x z) : ∃ ov, DGet H a (kV k) ov ∧ Rep K H O (getOr ds (kD k) x) (ov.getD z) := by
  obtain ⟨b, kvs, eb, e, r⟩ := t.dict
  cases eb
  refine ⟨_, DGet.k e, ?_⟩
  unfold getOr
  rcases getK_ok (k := k) r with ⟨g1, g2⟩ | ⟨d, v, g1, g2, g3⟩
  · rw [g1, g2]; exact rx
  · rw [g1, g2]; exact g3
theorem zpe_get1 (hu : X.A.units + 66 < cLine) (ho : PE X o (tVar i)) (he : PE X e (tE X fk)) (m : M1 X o "get" apos e cpos) : PE X (.Call (.Attribute o "get" apos) [e] [] cpos) (tE X (eGet1 i fk)) := by
  refine ⟨fun pins s σ H Q I hq => (pe_dget1 (by omega) ho he m).run pins s σ H Q I ?_⟩
  obtain ⟨c, E, ρ, rv, ρ', hK, hR, hf, q⟩ := hq
  unfold eGet1 at hf
  split at hf
  · rename_i ds0 h0
    obtain ⟨z, hz⟩ := hR.slot_some h0
    obtain ⟨⟨r1, ρ1⟩, h1, hf⟩ := bindS hf
    obtain ⟨k, h2, hf⟩ := bindS hf
    split at hf
    · rename_i ds h3
      split at hf
      · rename_i hk
        cases hf
        obtain ⟨k, rfl⟩ := isKD_ok hk
        have e2 := asV_ok h2
        dsimp only at e2 h3
        subst e2
        obtain ⟨a, rfl, ia⟩ := isD_top (hR.top h0 hz)
        refine ⟨_, hz, a, rfl, ia, c, E, ρ, _, ρ1, hK, hR, h1, fun y H1 P1 => ?_⟩
        obtain ⟨s1, R1, v1⟩ := P1.v
        have ey := key_of_rep v1
        subst ey
        obtain ⟨ov, g1, g2⟩ := get_or (k := k) (R1.top h3 hz) (Rep.non)
        exact ⟨ov, g1, q _ _ ⟨s1, R1, g2⟩⟩
      · cases hf
    · cases hf
  · cases hf
theorem zpe_get2 (hu : X.A.units + 66 < cLine) (ho : PE X o (tVar i)) (he : PE X e (tE X fk)) (hx : PE X x (tE X fx)) (m : M2 X o "get" apos e x cpos) : PE X (.Call (.Attribute o "get" apos) [e, x] [] cpos) (tE X (eGet2 i fk fx)) := by
  refine ⟨fun pins s σ H Q I hq => (pe_dget2 (by omega) ho he hx m).run pins s σ H Q I ?_⟩
  obtain ⟨c, E, ρ, rv, ρ', hK, hR, hf, q⟩ := hq
  unfold eGet2 at hf
  split at hf
  · rename_i ds0 h0
    obtain ⟨z, hz⟩ := hR.slot_some h0
    obtain ⟨⟨r1, ρ1⟩, h1, hf⟩ := bindS hf
    obtain ⟨k, h2, hf⟩ := bindS hf
    obtain ⟨⟨r2, ρ2⟩, h3, hf⟩ := bindS hf
    split at hf
    · rename_i ds h4
      split at hf
      · rename_i hk
        cases hf
        obtain ⟨k, rfl⟩ := isKD_ok hk
        have e2 := asV_ok h2
        dsimp only at e2 h3 h4
        subst e2
        obtain ⟨a, rfl, ia⟩ := isD_top (hR.top h0 hz)
        refine ⟨_, hz, a, rfl, ia, c, E, ρ, _, ρ1, hK, hR, h1, fun y H1 P1 => ?_⟩
        obtain ⟨s1, R1, v1⟩ := P1.v
        have ey := key_of_rep v1
        subst ey
        refine ⟨c, E, ρ1, _, ρ2, hK, R1, h3, fun w H2 P2 => ?_⟩
        obtain ⟨s2, R2, v2⟩ := P2.pv R1
        obtain ⟨ov, g1, g2⟩ := get_or (k := k) (R2.top h4 hz) v2
        exact ⟨ov, g1, q _ _ ⟨s1.trans s2, R2, g2⟩⟩
      · cases hf
    · cases hf
  · cases hf
end
end Z
namespace Z
open PySem PySem.Spec L2
open PyProof.Rows hiding St

/-! ## x[::-1] -/
def revS (s : Str) : Str := ⟨((Builtin.Str.strSliceIndices none none (-1) s.length).filterMap (s.cps[·]?)).toArray⟩
theorem strOk_rev {s : Str} (h : PyData.strOk s = true) : PyData.strOk (revS s) = true := by
  rw [strOk_iff] at *
  intro c hc
  have e : (revS s).cps.toList = (Builtin.Str.strSliceIndices none none (-1) s.length).filterMap (s.cps[·]?) := by unfold revS; rw [List.toList_toArray]
  rw [e] at hc
  obtain ⟨i, _, hi⟩ := List.mem_filterMap.mp hc
  exact h c (Array.mem_toList_iff.mpr (Array.mem_of_getElem? hi))
def revD : D → Option RV
  | .list ds => some (.o (.list ds.reverse))
  | .tuple ds => some (.v (.tuple ds.reverse))
  | .str s => if szb (revS s).length then some (.v (.str (revS s))) else none
  | _ => none
theorem Reps.reverse {K : PySem.W.Frag} {H : Hp} {O : AS} {ds : List D} {vs : List V} (r : Reps K H O ds vs) : Reps K H O ds.reverse vs.reverse := by
  have go : ∀ (ds : List D) (vs : List V), Reps K H O ds vs → Reps K H O ds.reverse vs.reverse := by
    intro ds
    induction ds with
    | nil => intro vs r; cases r; exact .nil
    | cons d ds ih =>
      intro vs r
      cases r with
      | cons a t =>
        rw [List.reverse_cons, List.reverse_cons]
        exact (ih _ t).append (.cons a .nil)
  exact go ds vs r
theorem adjust_rev (n : Nat) : Builtin.Slice.sliceAdjust none none (-1) (n : Int) = ((n : Int) - 1, -1) := by
  unfold Builtin.Slice.sliceAdjust
  simp
theorem places_rev (n : Nat) : Builtin.Slice.slicePlaces ((n : Int) - 1) (-1) (-1) = n := by
  unfold Builtin.Slice.slicePlaces
  have h1 : ¬ ((-1 : Int) > 0) := by omega
  simp only [h1, if_false]
  rw [show (- -1 : Int) = 1 by decide, Int.ediv_one]
  split <;> omega
section
variable {prog : Program} {w : World} {A : Around} {E : Value → Shared → Prop} {s : Shared}
theorem sliceApplied_rev {sl : Addr} {vl vu vk : Value} {n : Nat} {Q : Int × Int × Nat → Shared → Prop} (hs : s.heap.IsSliceOf sl vl vu vk) (pl : IsPart vl none) (pu : IsPart vu none) (pk : IsPart vk (some (-1)))
    (h : Q ((n : Int) - 1, -1, n) s) : wpAny (model prog w) A (Builtin.Slice.sliceApplied (.ref sl) (pure (n : Int))) Q E s := by
  obtain ⟨os, hos, hcs, hds⟩ := id hs
  unfold Builtin.Slice.sliceApplied Builtin.Slice.sliceFields
  refine wpAny_bind (wpAny_bind (wpAny_field hos hds (x := vl) rfl (wpAny_bind (wpAny_field hos hds (x := vu) rfl (wpAny_bind (wpAny_field hos hds (x := vk) rfl (wpAny_pure ?_)))))))
  refine wpAny_bind (HT.slicePart_ pk ?_)
  show wpAny _ _ (if ((-1 : Int) == 0) = true then _ else _) _ _ s
  rw [if_neg (by decide)]
  refine wpAny_bind (HT.slicePart_ pl (wpAny_bind (HT.slicePart_ pu (wpAny_bind (wpAny_pure ?_)))))
  show wpAny _ _ (match Builtin.Slice.sliceAdjust none none (-1) (n : Int) with | (lo, hi) => pure (lo, (-1 : Int), Builtin.Slice.slicePlaces lo hi (-1))) _ _ s
  rw [adjust_rev n]
  show wpAny _ _ (pure ((n : Int) - 1, (-1 : Int), Builtin.Slice.slicePlaces ((n : Int) - 1) (-1) (-1))) _ _ s
  rw [places_rev]
  exact wpAny_pure h
theorem pick_rev (xs : Array Value) : ((List.range xs.size).filterMap fun (m : Nat) => xs[((xs.size : Int) - 1 + (m : Int) * (-1)).toNat]?).toArray = xs.toList.reverse.toArray := by
  have e : (fun (m : Nat) => xs[((xs.size : Int) - 1 + (m : Int) * (-1)).toNat]?) = (fun k => xs[k]?) ∘ fun m => xs.size - 1 - m := by
    funext m
    have : ((xs.size : Int) - 1 + (m : Int) * (-1)).toNat = xs.size - 1 - m := by omega
    rw [this]; rfl
  rw [e, ← List.filterMap_map, PySem.W.krv_range, List.filterMap_reverse, PySem.W.krv_all]
theorem getItem_tuple_rev {t sl : Addr} {items : Array Value} {vl vu vk : Value} {Q : Value → Shared → Prop} (ht : IsTup s.heap t items) (hs : s.heap.IsSliceOf sl vl vu vk) (pl : IsPart vl none) (pu : IsPart vu none) (pk : IsPart vk (some (-1)))
    (h : Q (.ref s.heap.objs.size) { s with heap := s.heap.push { cls := .type "tuple", data := .seq items.toList.reverse.toArray } })
    (hsz : items.size ≤ sizeLine) : wpAny (model prog w) A (getItem (.ref t) (.ref sl)) Q E s := by
  have htake : sizeOk (.seq items.toList.reverse.toArray) := by
    show items.toList.reverse.toArray.size ≤ sizeLine
    rw [List.size_toArray, List.length_reverse, Array.length_toList]
    omega
  obtain ⟨os, hos, hcs, hds⟩ := id hs
  have hTs : s.TypeIs (.ref sl) "slice" := ⟨os, hos, hcs⟩
  unfold getItem
  try with_reducible refine wpAny_holding ?_
  first | refine wpAny_bind (wpAny_pure ?_) | skip
  refine wpAny_bind (wpAny_sequenceKey ht.typeIs (by decide) ?_)
  refine wpAny_bind (wpAny_callSpecial?_slot (name := Str.ofString "__getitem__") ht.typeIs PyProof.Rows.slot_tuple_getitem
    (wpAny_call_entry PyProof.Rows.slot_tuple_getitem ht.typeIs entry_tuple_getitem ?_ (args_tuple_getitem _ _)))
  show wpAny _ _ (Builtin.Tuple.tupleItemsOf (.ref t) >>= _) _ _ s
  refine wpAny_bind (tupleItemsOf_ ht ?_)
  refine wpAny_bind (wpAny_typeOf hTs ?_)
  rw [if_pos (by decide)]
  refine wpAny_bind (sliceApplied_rev hs pl pu pk ?_)
  have hno : ¬ ((((items.size : Int) - 1) == 0 && (-1 : Int) == 1 && items.size == items.size) = true) := by
    intro q
    rw [Bool.and_eq_true, Bool.and_eq_true] at q
    have q1 : (-1 : Int) = 1 := eq_of_beq q.1.2
    omega
  show wpAny _ _ (if (((items.size : Int) - 1) == 0 && (-1 : Int) == 1 && items.size == items.size) = true then _ else _) _ _ s
  rw [if_neg hno, pick_rev]
  first
    | exact wpAny_bind (m := Builtin.Tuple.tupleExact _) (wpAny_newObj_type (wpAny_pure ⟨_, rfl, wpAny_pure h⟩) htake)
    | exact wpAny_bind (m := Builtin.Tuple.tupleExact _) (wpAny_newObj_type (wpAny_bind (wpAny_pure (wpAny_pure ⟨_, rfl, wpAny_pure h⟩))) htake)
    | exact wpAny_bind (wpAny_bind (m := Builtin.Tuple.tupleExact _) (wpAny_newObj_type (wpAny_pure (wpAny_pure ⟨_, rfl, wpAny_pure h⟩)) htake))
    | exact wpAny_bind (wpAny_bind (m := Builtin.Tuple.tupleExact _) (wpAny_newObj_type (wpAny_pure ⟨_, rfl, wpAny_pure h⟩) htake))
end
section
variable {X : Cx} {a : Expr} {fa : MO}
theorem zpe_rev {k : Nat} {p1 p2 p3 pos : Pos} (he : PE X a (tOpd X fa)) : PE X (.Subscript a (.Slice none none (some (.UnaryOp .USub (.Constant (.int 1) k p1) p2)) p3) pos) (tE X (eOp1 revD fa)) := by
  refine ⟨fun pins s σ H Q I h => ?_⟩
  refine Subscript_ (thn (he.run pins s σ H _ I (op1_read h)) fun v s1 ⟨x, H1, I1, r1, q1⟩ => ?_)
  obtain ⟨O, d, rv, hO, td, hf, q⟩ := q1
  have hst : PO X (some (.UnaryOp .USub (.Constant (.int 1) k p1) p2)) (tPart (tUn (rU fun i => .int (-i)) (tC (.int 1)))) := po_some (pe_un un_neg pe_int)
  refine wpAny_Slice (thn (po_none.run pins s1 σ H1 (fun o H2 => o = none ∧ H2 = H1) I1 ⟨rfl, rfl⟩) fun vl s2 ⟨l, H2, I2, pl, el, e2⟩ => ?_)
  subst el e2
  refine thn (po_none.run pins s2 σ H2 (fun o H3 => o = none ∧ H3 = H2) I2 ⟨rfl, rfl⟩) fun vu s3 ⟨u, H3, I3, pu, eu, e3⟩ => ?_
  subst eu e3
  refine thn (hst.run pins s3 σ H3 (fun o H4 => o = some (-1) ∧ H4 = H3) I3 ⟨1, rfl, -1, rfl, rfl, rfl⟩) fun vs s4 ⟨o, H4, I4, ps, eo, e4⟩ => ?_
  subst eo e4
  have I5 : Inv X pins σ H4 { s4 with heap := s4.heap.push { cls := .type "slice", data := .fields #[vl, vu, vs] } } := I4.kept (t' := s4.toks) fun b ob q => Heap.get?_push_of_some _ q
  unfold revD at hf
  split at hf
  · rename_i ds
    cases hf
    obtain ⟨b, xs, rfl, hx, rx⟩ := td.list
    cases r1
    obtain ⟨its, r, ht, hz⟩ := I5.list hx
    have hlen := r.length
    show wpAny (model X.prog X.w) X.A (subscriptTail a (.Slice none none (some (.UnaryOp .USub (.Constant (.int 1) k p1) p2)) p3) (.ref b) (.ref s4.heap.objs.size)) (EP X pins σ Q) X.xe { s4 with heap := s4.heap.push { cls := .type "slice", data := .fields #[vl, vu, vs] } }
    refine tail_any (ops := [.ref b, .ref s4.heap.objs.size]) ht.isList.typeIs (PySem.slot_list_getitem.lookup) ?_ (by with_unfolding_all rfl)
    refine wpAny_getItem_list_slice ht.isList (Heap.IsSliceOf.new _ vl vu vs) pl pu ps (by decide) ?_ (by rw [List.size_toArray]; omega)
    rw [PySem.W.krv_pick]
    have fr := I5.hok.fresh (Nat.le_refl _)
    refine ⟨.ref _, _, I5.laid (t' := s4.toks) (o := .lst xs.reverse) (fun b ob q => Heap.get?_push_of_some _ q) (Nat.le_refl _) ?_, rfl, q _ _ (resLst rx.reverse fr)⟩
    exact ⟨by rw [List.length_reverse]; exact hz, _, 0, r.reverse, Heap.get?_push_size _ rfl⟩
  · rename_i ds
    cases hf
    obtain ⟨b, xs, rfl, hx, rx⟩ := td.tuple
    cases r1
    obtain ⟨its, r, ht, hz⟩ := I5.tuple hx
    have hlen := r.length
    show wpAny (model X.prog X.w) X.A (subscriptTail a (.Slice none none (some (.UnaryOp .USub (.Constant (.int 1) k p1) p2)) p3) (.ref b) (.ref s4.heap.objs.size)) (EP X pins σ Q) X.xe { s4 with heap := s4.heap.push { cls := .type "slice", data := .fields #[vl, vu, vs] } }
    refine tail_any (ops := [.ref b, .ref s4.heap.objs.size]) ht.typeIs PyProof.Rows.slot_tuple_getitem.lookup ?_ (by with_unfolding_all rfl)
    refine getItem_tuple_rev ht (Heap.IsSliceOf.new _ vl vu vs) pl pu ps ?_ (by rw [List.size_toArray]; omega)
    have fr := I5.hok.fresh (Nat.le_refl _)
    refine ⟨.ref _, _, I5.laid (t' := s4.toks) (o := .tup xs.reverse) (fun b ob q => Heap.get?_push_of_some _ q) (Nat.le_refl _) ?_, rfl, q _ _ (resTup hO rx.reverse fr)⟩
    exact ⟨by rw [List.length_reverse]; exact hz, _, r.reverse, IsTup.new _ _⟩
  · rename_i z
    split at hf
    · rename_i hz
      have sk := td.strOk
      cases td.str
      cases hf
      obtain ⟨t, rfl⟩ := r1
      obtain ⟨l, rfl, el⟩ := IsPart.raw pl
      obtain ⟨u, rfl, eu⟩ := IsPart.raw pu
      obtain ⟨o, rfl, eo⟩ := IsPart.raw ps
      show wpAny (model X.prog X.w) X.A (subscriptTail a (.Slice none none (some (.UnaryOp .USub (.Constant (.int 1) k p1) p2)) p3) (.str z t) (.ref s4.heap.objs.size)) (EP X pins σ Q) X.xe { s4 with heap := s4.heap.push { cls := .type "slice", data := .fields #[partValue l, partValue u, partValue o] } }
      refine tail_any (ops := [.str z t, .ref s4.heap.objs.size]) (typeIs_str _ _ _) F.slot_str_getitem.lookup ?_ (by with_unfolding_all rfl)
      refine wpAny_getItem_str_slice (l := l) (u := u) (st := o) ⟨_, Heap.get?_push_size _ rfl, rfl, rfl⟩ (by rw [eo]; rfl) ?_
      unfold sliceMade slicePicked
      rw [el, eu, eo]
      show Made.post (if ((-1 : Int) == 1 && _) = true then _ else _) _ _
      rw [show ((-1 : Int) == 1) = false from rfl, Bool.false_and, if_neg Bool.false_ne_true]
      exact ⟨szb_ok hz, .str (revS z), H4, I5.tok _, ⟨_, rfl⟩, q _ _ (resV (.str _ (strOk_rev sk)))⟩
    · cases hf
  · cases hf
end
/-! ## displays of dicts, of constants -/
def dcD (kvs : List (L2.Key × D)) : List (D × D) := kvs.map fun p => (kD p.1, p.2)
def eDic (kvs : List (L2.Key × D)) : ME := fun ρ => some (.o (.dict (dcD kvs)), ρ)
def vOf : D → V
  | .none => .non
  | .bool b => .bl b
  | .int i => .int i
  | .str s => .str s
  | _ => .non
def cCst : Const → Option D
  | .none => some .none
  | .bool b => some (.bool b)
  | .int i => some (.int i)
  | .str s => if PyData.strOk s then some (.str s) else none
  | _ => none
def kOf : Expr → Option L2.Key
  | .Constant (.str s) _ _ => if PyData.strOk s then some (.inr s) else none
  | .Constant (.int i) _ _ => some (.inl i)
  | _ => none
def dOf : Expr → Option D
  | .Constant k _ _ => cCst k
  | _ => none
def cDic : List (Option Expr) → List Expr → Option (List (L2.Key × D))
  | [], [] => some []
  | some k :: ks, v :: vs => (kOf k).bind fun k => (dOf v).bind fun d => (cDic ks vs).bind fun r => if r.all fun p => !decide (p.1 = k) then some ((k, d) :: r) else none
  | _, _ => none
theorem kOf_ok {X : Cx} {e : Expr} {k : L2.Key} (h : kOf e = some k) : PE X e (tC (kV k)) ∧ KeyOk k := by
  unfold kOf at h
  split at h
  · split at h
    · rename_i hs; cases h; exact ⟨pe_str, hs⟩
    · cases h
  · cases h; exact ⟨pe_int, True.intro⟩
  · cases h
theorem dOf_ok {X : Cx} {e : Expr} {d : D} (h : dOf e = some d) : PE X e (tC (vOf d)) ∧ ∀ K H O, Rep K H O d (vOf d) := by
  unfold dOf cCst at h
  split at h
  · split at h
    · cases h; exact ⟨pe_non, fun _ _ _ => .non⟩
    · cases h; exact ⟨pe_bl, fun _ _ _ => .bl _⟩
    · cases h; exact ⟨pe_int, fun _ _ _ => .int _⟩
    · split at h
      · rename_i hs
        cases h; exact ⟨pe_str, fun _ _ _ => .str _ hs⟩
      · cases h
    · cases h
  · cases h
def dcV (kvs : List (L2.Key × D)) : List (L2.Key × V) := kvs.map fun p => (p.1, vOf p.2)
theorem pairs_const : ∀ (kvs : List (L2.Key × D)) (σ : L2.St) (H : Hp) (Q : List (V × V) → Hp → Prop), Q ((dcV kvs).map fun p => (kV p.1, p.2)) H → tPairs (kvs.map fun p => (tC (kV p.1), tC (vOf p.2))) σ H Q
  | [], σ, H, Q, h => h
  | p :: r, σ, H, Q, h => by
    show tPairs (r.map fun p => (tC (kV p.1), tC (vOf p.2))) σ H fun ps H3 => Q ((kV p.1, vOf p.2) :: ps) H3
    exact pairs_const r σ H _ h
theorem merge_new : ∀ (more kvs : List (L2.Key × V)), (∀ p ∈ more, ∀ q ∈ kvs, q.1 ≠ p.1) → more.Pairwise (fun p q => q.1 ≠ p.1) → mergeK kvs more = kvs ++ more
  | [], kvs, _, _ => by rw [List.append_nil]; rfl
  | p :: r, kvs, h, w => by
    obtain ⟨w1, w2⟩ := List.pairwise_cons.mp w
    have e : putK kvs p.1 p.2 = kvs ++ [p] := by
      unfold putK
      rw [if_neg]
      intro q
      obtain ⟨y, hy, e⟩ := List.any_eq_true.mp q
      exact h p List.mem_cons_self y hy (of_decide_eq_true e)
    show mergeK (putK kvs p.1 p.2) r = _
    rw [e, merge_new r _ (fun x hx q hq => ?_) w2, List.append_assoc]
    · rfl
    · rcases List.mem_append.mp hq with hq | hq
      · exact h x (List.mem_cons_of_mem _ hx) q hq
      · rw [List.mem_singleton.mp hq]; exact fun e => w1 x hx e.symm
theorem cDic_ok {X : Cx} {pos : Pos} : ∀ {ks : List (Option Expr)} {vs : List Expr} {kvs : List (L2.Key × D)}, cDic ks vs = some kvs →
    PPs X pos ks vs (kvs.map fun p => (tC (kV p.1), tC (vOf p.2))) ∧ ks.all (·.isSome) = true ∧ ks.length = vs.length ∧ ks.length = kvs.length ∧ (∀ p ∈ kvs, KeyOk p.1 ∧ ∀ K H O, Rep K H O p.2 (vOf p.2)) ∧ (dcV kvs).Pairwise (fun p q => q.1 ≠ p.1)
  | [], [], kvs, h => by cases h; exact ⟨pps_nil, rfl, rfl, rfl, (fun p h => by cases h), .nil⟩
  | some k :: ks, v :: vs, kvs, h => by
    unfold cDic at h
    obtain ⟨k', h1, h⟩ := bindS h
    obtain ⟨d, h2, h⟩ := bindS h
    obtain ⟨r, h3, h⟩ := bindS h
    split at h
    · rename_i hn
      cases h
      obtain ⟨i1, i2, i3, i4, i5, i6⟩ := cDic_ok (X := X) (pos := pos) h3
      obtain ⟨d1, d2⟩ := dOf_ok (X := X) h2
      refine ⟨pps_cons (kOf_ok h1).1 d1 i1, by rw [List.all_cons, i2]; rfl, by simp [i3], by simp [i4], fun p hp => ?_, ?_⟩
      · rcases List.mem_cons.mp hp with e | hp
        · rw [e]; exact ⟨(kOf_ok (X := X) h1).2, d2⟩
        · exact i5 p hp
      · refine List.pairwise_cons.mpr ⟨fun q hq => ?_, i6⟩
        obtain ⟨y, hy, e⟩ := List.mem_map.mp hq
        have := List.all_eq_true.mp hn y hy
        rw [← e]
        simpa using this
    · cases h
  | none :: _, _, _, h => by cases h
  | some _ :: _, [], _, h => by cases h
  | [], _ :: _, _, h => by cases h
theorem repK_dc {K : PySem.W.Frag} {H : Hp} {O : AS} : ∀ {kvs : List (L2.Key × D)}, (∀ p ∈ kvs, KeyOk p.1 ∧ ∀ K H O, Rep K H O p.2 (vOf p.2)) → RepK K H O (dcD kvs) (dcV kvs)
  | [], _ => .nil
  | p :: r, h => .cons (h p List.mem_cons_self).1 ((h p List.mem_cons_self).2 K H O) (repK_dc fun q hq => h q (List.mem_cons_of_mem _ hq))
theorem zpe_dic {X : Cx} {pos : Pos} {ks : List (Option Expr)} {vs : List Expr} {kvs : List (L2.Key × D)} (h : cDic ks vs = some kvs) (hl : kvs.length ≤ 15) : PE X (.Dict ks vs pos) (tE X (eDic kvs)) := by
  obtain ⟨i1, i2, i3, i4, i5, i6⟩ := cDic_ok (X := X) (pos := pos) h
  have fin : ∀ {σ : L2.St} {H : Hp} {Q : VK}, tE X (eDic kvs) σ H Q → ∀ (p : Addr) (H' : Hp), H p = none → (∀ b, b ≠ p → H' b = H b) → H' p = some (.dK (dcV kvs)) → Q (.ref p) H' := by
    intro σ H Q hq p H' hp hk hp2
    obtain ⟨c, E, ρ, rv, ρ', hK, hR, hf, q⟩ := hq
    cases hf
    have g : Grow H H' := fun b o hb => by rw [hk b fun e => by rw [e, hp] at hb; cases hb]; exact hb
    exact q _ _ (ResB.post Stp.rfl hR ⟨g, p, rfl, hp, _, hp2, repK_dc i5⟩)
  by_cases e : kvs = []
  · subst e
    cases ks with
    | cons k ks => simp at i4
    | nil =>
      cases vs with
      | cons v vs => simp at i3
      | nil => exact ⟨fun pins s σ H Q I hq => pe_dnewK.run pins s σ H Q I fun p hp => fin hq p _ hp (fun b hb => upd_ne hb) upd_same⟩
  · refine ⟨fun pins s σ H Q I hq => (pe_disp i1 i2 i3 (fun e' => e (List.eq_nil_of_length_eq_zero (by rw [← i4, e']; rfl))) (by omega)).run pins s σ H Q I fun p hp => ?_⟩
    refine pairs_const kvs σ _ _ ⟨upd_same, dcV kvs, rfl, by unfold dcV; rw [List.length_map]; exact hl, ?_⟩
    rw [merge_new (dcV kvs) [] (fun _ _ q hq => by cases hq) i6]
    exact fin hq p _ hp (fun b hb => by rw [upd_ne hb, upd_ne hb]) upd_same
end Z
namespace Z
open PySem PySem.Spec L2
open PyProof.Rows hiding St

/-! ## methods that only read -/
def eMt (g : D → List D → Option RV) (fo : MO) (fs : MOs) : ME := fun ρ => (fo ρ).bind fun r => (r.1.get r.2).bind fun x0 => (fs r.2).bind fun s => (r.1.get s.2).bind fun x => (getAll s.2 s.1).bind fun ys =>
  if tyD x0 = tyD x then (g x ys).bind fun z => some (z, s.2) else none
structure MetR (X : Cx) (name : Str) (g : D → List D → Option RV) : Prop where
  ok : ∀ d ys rv, g d ys = some rv → ∃ (id : String) (r : V → List V → Hp → VK → Prop), PlainAttrs (tyD d) ∧ Slot (tyD d) name id ∧ typeOf (.builtin id) = pure (.type "method_descriptor") ∧ MtR X id r ∧ (tyD d = "str" ∨ tyD d = "list") ∧
    ∀ (O : AS) (H : Hp) (x : V) (zs : List V) (Q : VK), (∀ b, O b → ∃ o, H b = some o) → Top X.K H O d x → Tops X.K H O ys zs → (∀ z H', ResB X.K H O rv H' z → Q z H') → r x zs H Q
theorem tyV_top {K : PySem.W.Frag} {H : Hp} {O : AS} {d : D} {x : V} (h : tyD d = "str" ∨ tyD d = "list") (t : Top K H O d x) : tyV K (tyD d) x H := by
  cases d with
  | str s => cases t.str; exact rfl
  | list ds => obtain ⟨a, vs, rfl, ha, _⟩ := t.list; exact .inl ⟨rfl, vs, ha⟩
  | _ => rcases h with h | h <;> exact absurd h (by simp [tyD])
section
variable {X : Cx} {e : Expr} {es : List Expr} {fo : MO} {fs : MOs} {pos apos : Pos} {o : Expr} {name : Str} {g : D → List D → Option RV}
theorem zpe_mt (M : MetR X name g) (ho : PE X o (tOpd X fo)) (ha : PA X (e :: es) (tOps X fs)) (hbase : attributeBase o name X.env (eval o X.env) = eval o X.env)
    (hfew : ((backTo pos (starEach (e :: es) X.env)).all (fun x => !x.1) && (backToKw pos (keywordEach [] X.env)).all (fun x => x.1.isSome)
      && decide ((e :: es).length + ([] : List Keyword).length + (if ([] : List Keyword).isEmpty then 0 else 1) < 30)) = true)
    (hline : (apos.endLine == pos.line) = true) (hs : starEach (e :: es) X.env = (false, eval e X.env) :: starEach es X.env) (hplain : (backTo pos (starEach es X.env)).any (·.1) = false) :
    PE X (.Call (.Attribute o name apos) (e :: es) [] pos) (tE X (eMt g fo fs)) := by
  refine ⟨fun pins s σ H Q I hq => ?_⟩
  obtain ⟨c, E, ρ, rv, ρ', hK, hR, hf, q⟩ := hq
  obtain ⟨⟨p1, ρ1⟩, h1, hf⟩ := bindS hf
  obtain ⟨x0, h2, hf⟩ := bindS hf
  obtain ⟨⟨ps, ρ2⟩, h3, hf⟩ := bindS hf
  obtain ⟨x, h4, hf⟩ := bindS hf
  obtain ⟨ys, h5, hf⟩ := bindS hf
  split at hf
  · rename_i ht
    obtain ⟨w, h6, hf⟩ := bindS hf
    cases hf
    obtain ⟨id, r, pa, slot, hty, hm, hd, hr⟩ := M.ok x ys _ h6
    refine (pe_bm pa slot hty hm ho ha hbase hfew hline hs hplain).run pins s σ H Q I ?_
    refine ⟨c, E, ρ, p1, ρ1, hK, hR, h1, fun z H1 P1 => ⟨?_, c, E, ρ1, ps, ρ2, hK, P1.2.1, h3, fun zs H2 P2 => ?_⟩⟩
    · rw [← ht, ← hK]
      rw [← ht] at hd
      exact tyV_top hd (P1.top Stp.rfl P1.2.1 h2)
    · refine hr (OE ρ2 σ E) H2 z zs Q (oe_there P2.2.1) ?_ ?_ fun z2 H3 rb => q z2 H3 (ResB.post (P1.1.trans P2.1) P2.2.1 (by rw [hK]; exact rb))
      · rw [← hK]; exact P1.top P2.1 P2.2.1 h4
      · rw [← hK]; exact P2.2.2.tops P2.2.1 h5
  · cases hf
theorem zpe_mt0 (M : MetR X name g) (ho : PE X o (tOpd X fo)) (hbase : attributeBase o name X.env (eval o X.env) = eval o X.env)
    (hline : (apos.endLine == pos.line) = true) :
    PE X (.Call (.Attribute o name apos) [] [] pos) (tE X (eMt g fo osNil)) := by
  refine ⟨fun pins s σ H Q I hq => ?_⟩
  obtain ⟨c, E, ρ, rv, ρ', hK, hR, hf, q⟩ := hq
  obtain ⟨⟨p1, ρ1⟩, h1, hf⟩ := bindS hf
  obtain ⟨x0, h2, hf⟩ := bindS hf
  obtain ⟨⟨ps, ρ2⟩, h3, hf⟩ := bindS hf
  obtain ⟨x, h4, hf⟩ := bindS hf
  obtain ⟨ys, h5, hf⟩ := bindS hf
  cases h3
  split at hf
  · rename_i ht
    obtain ⟨w, h6, hf⟩ := bindS hf
    cases hf
    obtain ⟨id, r, pa, slot, hty, hm, hd, hr⟩ := M.ok x ys _ h6
    refine (pe_bm0 pa slot hty hm ho hbase hline).run pins s σ H Q I ?_
    refine ⟨c, E, ρ, p1, ρ1, hK, hR, h1, fun z H1 P1 => ⟨?_, ?_⟩⟩
    · rw [← ht, ← hK]
      rw [← ht] at hd
      exact tyV_top hd (P1.top Stp.rfl P1.2.1 h2)
    · cases h5
      refine hr (OE ρ1 σ E) H1 z [] Q (oe_there P1.2.1) ?_ True.intro fun z2 H3 rb => q z2 H3 (ResB.post P1.1 P1.2.1 (by rw [hK]; exact rb))
      rw [← hK]; exact P1.top Stp.rfl P1.2.1 h4
  · cases hf
end

def mstrsOf : List D → Option (List Str)
  | [] => some []
  | .str s :: r => (mstrsOf r).bind fun l => some (s :: l)
  | _ => none
theorem mstrsOf_ok : ∀ {ds : List D} {ys : List Str}, mstrsOf ds = some ys → ds = ys.map .str
  | [], _, h => by cases h; rfl
  | d :: r, ys, h => by
    cases d <;> first
      | (unfold mstrsOf at h; obtain ⟨l, h1, h2⟩ := bindS h; cases h2; rw [mstrsOf_ok h1]; rfl)
      | (unfold mstrsOf at h; cases h)
theorem mstrsOf_map (ys : List Str) : mstrsOf (ys.map .str) = some ys := by
  induction ys with
  | nil => rfl
  | cons y ys ih => rw [List.map_cons]; unfold mstrsOf; rw [ih]; rfl
def mjoinG (a : Str) (ds : List D) : Option RV := (mstrsOf ds).bind fun ys => if decide ((ys.map (·.length)).sum + ys.length * a.length ≤ 16777216) then some (.v (.str (Txt.join a ys))) else none
def mjoinD : D → List D → Option RV
  | .str a, [.list ds] => mjoinG a ds
  | .str a, [.tuple ds] => mjoinG a ds
  | _, _ => none
def splitD : D → List D → Option RV
  | .str a, [.str b] => if decide (b.length ≠ 0) && decide (a.length + 2 ≤ 16777216) then some (.o (.list ((Txt.split a b).map .str))) else none
  | _, _ => none
def upperD : D → List D → Option RV
  | .str a, [] => if decide (a.length ≤ 5592405) && PyData.strOk (Txt.upper a) then some (.v (.str (Txt.upper a))) else none
  | _, _ => none
def startD : D → List D → Option RV
  | .str a, [.str b] => some (.v (.bool (Txt.startswith a b)))
  | _, _ => none
def countD : D → List D → Option RV
  | .str a, [.str b] => some (.v (.int (Txt.count a b)))
  | .list ds, [d] => if okE d && okE (.list ds) then some (.v (.int (ds.countP fun y => PyData.eqv y d : Nat))) else none
  | _, _ => none
def indexD : D → List D → Option RV
  | .list ds, [d] => if okE d && okE (.list ds) then (fstEq ds d).bind fun j => some (.v (.int (j : Nat))) else none
  | _, _ => none
theorem strOk_join {a : Str} (ha : PyData.strOk a = true) : ∀ {ys : List Str}, (∀ y ∈ ys, PyData.strOk y = true) → PyData.strOk (Txt.join a ys) = true := by
  intro ys h
  show PyData.strOk (Builtin.Str.glued a ys) = true
  rw [StrLaws.glued_eq_join]
  match ys, h with
  | [], _ => rw [strOk_iff]; intro c hc; exact absurd hc (by show ¬ c ∈ ([] : List Nat); simp)
  | [x], h => exact h x List.mem_cons_self
  | x :: y :: r, h =>
    have ih := strOk_join ha (ys := y :: r) fun z hz => h z (List.mem_cons_of_mem _ hz)
    have ih2 : PyData.strOk (Str.join a (y :: r)) = true := by rw [← StrLaws.glued_eq_join]; exact ih
    show PyData.strOk (x ++ a ++ Str.join a (y :: r)) = true
    exact strOk_app (strOk_app (h x List.mem_cons_self) ha) ih2
termination_by ys => ys.length
theorem strOk_sub {a : Str} {i j : Nat} (h : PyData.strOk a = true) : PyData.strOk (Builtin.Str.strSub a i j) = true := by
  rw [strOk_iff] at *
  intro c hc
  have e : (Builtin.Str.strSub a i j).cps.toList = (a.cps.extract i j).toList := rfl
  rw [e, Array.toList_extract, List.extract_eq_drop_take] at hc
  exact h c (List.mem_of_mem_drop (List.mem_of_mem_take hc))
theorem strOk_split {a b : Str} (h : PyData.strOk a = true) : ∀ y ∈ Txt.split a b, PyData.strOk y = true := by
  intro y hy
  unfold Txt.split at hy
  split at hy
  · rw [List.mem_singleton.mp hy]; exact h
  · split at hy
    · rw [List.mem_singleton.mp hy]; exact h
    · unfold Builtin.Str.partsBetween at hy
      obtain ⟨p, _, rfl⟩ := List.mem_map.mp hy
      exact strOk_sub h
theorem reps_strs {K : PySem.W.Frag} {H : Hp} {O : AS} : ∀ {ys : List Str}, (∀ y ∈ ys, PyData.strOk y = true) → Reps K H O (ys.map .str) (ys.map V.str)
  | [], _ => .nil
  | y :: ys, h => .cons (.str y (h y List.mem_cons_self)) (reps_strs fun z hz => h z (List.mem_cons_of_mem _ hz))
theorem strOk_reps {K : PySem.W.Frag} {H : Hp} {O : AS} : ∀ {ys : List Str} {vs : List V}, Reps K H O (ys.map .str) vs → ∀ y ∈ ys, PyData.strOk y = true
  | [], _, _ => fun _ h => by cases h
  | y :: ys, _, .cons r t => by
    intro z hz
    cases r with
    | str _ q =>
      rcases List.mem_cons.mp hz with rfl | hz
      · exact q
      · exact strOk_reps t z hz
section
variable {X : Cx}
theorem met_join : MetR X "join" mjoinD := by
  refine ⟨fun d ys rv h => ?_⟩
  have key : ∀ (a : Str) (ds : List D), mjoinG a ds = some rv → (∃ zs, ds = List.map .str zs ∧ (zs.map (·.length)).sum + zs.length * a.length ≤ 16777216 ∧ rv = .v (.str (Txt.join a zs))) := fun a ds h => by
    unfold mjoinG at h
    obtain ⟨zs, h1, h⟩ := bindS h
    split at h
    · rename_i hz
      cases h
      exact ⟨zs, mstrsOf_ok h1, of_decide_eq_true hz, rfl⟩
    · cases h
  unfold mjoinD at h
  split at h
  · rename_i a ds
    obtain ⟨zs, rfl, hz, rfl⟩ := key a ds h
    refine ⟨_, _, PySem.F.plainAttrs_str, PySem.F.slot_str_join, PySem.F.type_str_join, mt_join, .inl rfl, fun O H x xs Q hO t ts q => ?_⟩
    obtain ⟨y, rfl, t1⟩ := tops1 ts
    obtain ⟨p, vs, rfl, ha, r⟩ := t1.list
    have ok := strOk_reps r
    have sk := t.strOk
    cases t.str
    have e := r.strs rfl
    subst e
    exact ⟨a, p, zs, rfl, rfl, .inl ha, hz, q _ _ (resV (.str _ (strOk_join sk ok)))⟩
  · rename_i a ds
    obtain ⟨zs, rfl, hz, rfl⟩ := key a ds h
    refine ⟨_, _, PySem.F.plainAttrs_str, PySem.F.slot_str_join, PySem.F.type_str_join, mt_join, .inl rfl, fun O H x xs Q hO t ts q => ?_⟩
    obtain ⟨y, rfl, t1⟩ := tops1 ts
    obtain ⟨p, vs, rfl, ha, r⟩ := t1.tuple
    have ok := strOk_reps r
    have sk := t.strOk
    cases t.str
    have e := r.strs rfl
    subst e
    exact ⟨a, p, zs, rfl, rfl, .inr ha, hz, q _ _ (resV (.str _ (strOk_join sk ok)))⟩
  · cases h
theorem met_split : MetR X "split" splitD := by
  refine ⟨fun d ys rv h => ?_⟩
  unfold splitD at h
  split at h
  · rename_i a b
    split at h
    · rename_i hc
      rw [Bool.and_eq_true, decide_eq_true_eq, decide_eq_true_eq] at hc
      cases h
      refine ⟨_, _, PySem.F.plainAttrs_str, PySem.F.slot_str_split, PySem.F.type_str_split, mt_split, .inl rfl, fun O H x xs Q hO t ts q => ?_⟩
      obtain ⟨y, rfl, t1⟩ := tops1 ts
      have sk := t.strOk
      cases t.str
      cases t1.str
      refine ⟨a, b, rfl, rfl, by simpa using hc.1, by rw [sizeLine_eq]; exact hc.2, fun p np => q _ _ (resLst (reps_strs (strOk_split sk)) np)⟩
    · cases h
  · cases h
theorem met_upper : MetR X "upper" upperD := by
  refine ⟨fun d ys rv h => ?_⟩
  unfold upperD at h
  split at h
  · rename_i a
    split at h
    · rename_i hc
      rw [Bool.and_eq_true, decide_eq_true_eq] at hc
      cases h
      refine ⟨_, _, PySem.F.plainAttrs_str, PySem.F.slot_str_upper, PySem.F.type_str_upper, mt_upper, .inl rfl, fun O H x xs Q hO t ts q => ?_⟩
      cases t.str
      cases xs with
      | nil => exact ⟨a, rfl, rfl, hc.1, q _ _ (resV (.str _ hc.2))⟩
      | cons y ys => exact (show False from ts).elim
    · cases h
  · cases h
theorem met_start : MetR X "startswith" startD := by
  refine ⟨fun d ys rv h => ?_⟩
  unfold startD at h
  split at h
  · rename_i a b
    cases h
    refine ⟨_, _, PySem.F.plainAttrs_str, PySem.F.slot_str_startswith, PySem.F.type_str_startswith, mt_startswith, .inl rfl, fun O H x xs Q hO t ts q => ?_⟩
    obtain ⟨y, rfl, t1⟩ := tops1 ts
    cases t.str
    cases t1.str
    exact ⟨a, b, rfl, rfl, q _ _ (resV (.bl _))⟩
  · cases h
theorem mshaped_of {d : D} (a : d.canLay0 = true) (b : d.depth ≤ 60) : SeqAt.shaped d = true := by
  unfold SeqAt.shaped
  rw [a, decide_eq_true (show d.depth ≤ 64 by omega)]; rfl
theorem met_index (hu : X.A.units + 66 < cLine) : MetR X "index" indexD := by
  refine ⟨fun d ys rv h => ?_⟩
  unfold indexD at h
  split at h
  · rename_i ds k
    split at h
    · rename_i hc
      rw [Bool.and_eq_true] at hc
      obtain ⟨j, hk, h⟩ := bindS h
      cases h
      refine ⟨_, _, PySem.F.plainAttrs_list, PySem.F.slot_list_index, PySem.F.type_list_index, mt_indexD (X := X) (Nat.lt_of_succ_lt hu), .inr rfl, fun O H x xs Q hO t ts q => ?_⟩
      obtain ⟨y, rfl, t1⟩ := tops1 ts
      obtain ⟨_, l1, d1, p1⟩ := okE_ok hc.2 t
      obtain ⟨_, l2, d2, p2⟩ := okE_ok hc.1 t1
      obtain ⟨w, w1, w2, w3⟩ := fstEq_ok hk
      obtain ⟨a0, vs0, rfl, _, _⟩ := t.list
      exact ⟨a0, y, k, ds, j, w, rfl, rfl, p1, p2, mshaped_of l1 d1, mshaped_of l2 d2, w1, w2, w3, q _ _ (resV (.int _))⟩
    · cases h
  · cases h
def rCntD (K : PySem.W.Frag) : V → List V → Hp → VK → Prop := fun x xs H Q => ∃ (a : Addr) (y : V) (d : PyData) (ds : List PyData), x = V.ref a ∧ xs = [y] ∧ Dp K H (V.ref a) (.list ds) ∧ Dp K H y d ∧
  SeqAt.shaped (.list ds) = true ∧ SeqAt.shaped d = true ∧ Q (.int (ds.countP fun z => PyData.eqv z d : Nat)) H
theorem mt_countD (hu : X.A.units + 65 < cLine) : MtR X "list.count" (rCntD X.K) := by
  intro pins s σ H x xs v us Q I rx rxs h
  obtain ⟨a, y, d, ds, rfl, rfl, hl, hy, sl, sd, q⟩ := h
  cases rx
  cases rxs with
  | cons ry rt =>
    rename_i uy ut
    cases rt
    obtain ⟨bs, r1⟩ := Dp.reads I d y uy hy ry
    have hxs : PyData.canLayAll0 ds = true := SeqAt.canLay_of_shaped sl
    have hroom : X.A.units + 1 + min (PyData.depthAll ds) d.depth < cLine := room_in_shaped sd hu
    cases hl with
    | lst hs ha =>
      obtain ⟨its, rv, ⟨⟨cls, dd, data, sls⟩, n, ho, hc, hdn, hdt⟩, hlen⟩ := I.list hs
      simp only at hc hdt
      subst hc hdt
      obtain ⟨as, h4⟩ := Dp.readsAll I ds _ its ha rv
      have hmap : its.map (SeqAt.readOf s.heap) = ds := SeqAt.readsAll_map ds its as hxs h4
      have e : its.toArray.toList.countP (fun u => PyData.eqv (SeqAt.readOf s.heap u) d) = ds.countP fun z => PyData.eqv z d := by
        rw [← hmap, List.countP_map]; rfl
      refine call_meets PySem.F.slot_list_count ⟨_, ho, rfl⟩ PySem.F.entry_list_count (PySem.F.args_list_count_2 _ _)
        (SeqAt.list_countAt a its.toArray n dd sls uy (fun u => PyData.eqv (SeqAt.readOf s.heap u) d)) ⟨ho, SeqAt.items_eqAt (vs := its.toArray) (show ReadsAll s.heap its.toArray.toList ds as from h4) r1 hxs (SeqAt.canLay_of_shaped sd) hroom, ?_⟩
      rw [e]
      exact ⟨.int (ds.countP fun z => PyData.eqv z d : Nat), H, I.tok _, ⟨_, rfl⟩, q⟩
theorem met_count (hu : X.A.units + 66 < cLine) : MetR X "count" countD := by
  refine ⟨fun d ys rv h => ?_⟩
  unfold countD at h
  split at h
  · rename_i a b
    cases h
    refine ⟨_, _, PySem.F.plainAttrs_str, PySem.F.slot_str_count, PySem.F.type_str_count, mt_count, .inl rfl, fun O H x xs Q hO t ts q => ?_⟩
    obtain ⟨y, rfl, t1⟩ := tops1 ts
    cases t.str
    cases t1.str
    exact ⟨a, b, rfl, rfl, q _ _ (resV (.int _))⟩
  · rename_i ds k
    split at h
    · rename_i hc
      rw [Bool.and_eq_true] at hc
      cases h
      refine ⟨_, _, PySem.F.plainAttrs_list, PySem.F.slot_list_count, PySem.F.type_list_count, mt_countD (X := X) (Nat.lt_of_succ_lt hu), .inr rfl, fun O H x xs Q hO t ts q => ?_⟩
      obtain ⟨y, rfl, t1⟩ := tops1 ts
      obtain ⟨_, l1, d1, p1⟩ := okE_ok hc.2 t
      obtain ⟨_, l2, d2, p2⟩ := okE_ok hc.1 t1
      obtain ⟨a0, vs0, rfl, _, _⟩ := t.list
      exact ⟨a0, y, k, ds, rfl, rfl, p1, p2, mshaped_of l1 d1, mshaped_of l2 d2, q _ _ (resV (.int _))⟩
    · cases h
  · cases h
end
def methB (x : Str) : Option (D → List D → Option RV) :=
  if x = ("join" : Str) then some mjoinD else if x = ("split" : Str) then some splitD else if x = ("upper" : Str) then some upperD else if x = ("startswith" : Str) then some startD
  else if x = ("count" : Str) then some countD else if x = ("index" : Str) then some indexD else none
theorem methB_ok {X : Cx} (hu : X.A.units + 66 < cLine) {x : Str} {g : D → List D → Option RV} (h : methB x = some g) : MetR X x g := by
  unfold methB at h
  repeat' split at h
  all_goals first
    | (rename_i e; subst e; cases h; first | exact met_join | exact met_split | exact met_upper | exact met_start | exact met_count hu | exact met_index hu)
    | cases h
end Z
namespace Z
open PySem PySem.Spec L2
open PyProof.Rows hiding St

/-! ## from the text to evaluator functions: expressions -/
structure Tab where
  fn : Str → Option FnS
  con : Str → Option D
  kw : Str → Nat → List Str → Option (List Nat)
structure Co where
  e : Scope → Expr → Option ME
  b : Scope → Expr → Option MB
def ixOf : List Str → Str → Option Nat
  | [], _ => none
  | y :: r, x => if y = x then some 0 else (ixOf r x).bind fun i => some (i + 1)
theorem ixOf_ok : ∀ {N : List Str} {x : Str} {i : Nat}, ixOf N x = some i → N[i]? = some x
  | [], _, _, h => by cases h
  | y :: r, x, i, h => by
    unfold ixOf at h
    split at h
    · rename_i e; cases h; rw [e]; rfl
    · obtain ⟨j, e1, e2⟩ := bindS h
      cases e2
      exact ixOf_ok (N := r) e1
def okNm (x : Str) : Bool := !(x == ("__debug__" : Str)) && !(x == ("__classdict__" : Str)) && !(x == ("__name__" : Str))
def locIx (N : List Str) (sc : Scope) (x : Str) : Option Nat := match sc.names.lookup x with
  | some .local => if okNm x then ixOf N x else none
  | some .cell => if okNm x then ixOf N x else none
  | some .free => if okNm x then ixOf N x else none
  | _ => none
def isGl (sc : Scope) (x : Str) : Bool := okNm x && decide (sc.names.lookup x = some .globalImplicit)
def notStar : Expr → Bool
  | .Starred .. => false
  | _ => true
def notSet : Expr → Bool
  | .Set .. => false
  | _ => true
def notSlice : Expr → Bool
  | .Slice .. => false
  | _ => true
def notComp : Expr → Bool
  | .ListComp .. => false
  | .SetComp .. => false
  | .DictComp .. => false
  | _ => true
def plainTest : Expr → Bool
  | .UnaryOp .Not _ _ => false
  | .BoolOp .. => false
  | .IfExp .. => false
  | .Compare .. => false
  | _ => true
theorem star_ok {e : Expr} {es : List Expr} {env : Env} (h : notStar e = true) : starEach (e :: es) env = (false, eval e env) :: starEach es env := by
  cases e <;> first | rfl | cases h
theorem set_ok {e : Expr} {op : CmpOp} (h : notSet e = true) : behindInMarks op e = false := by
  cases e <;> first | rfl | cases h
theorem fold_ok {e : Expr} {env : Env} (h : notSet e = true) : ∀ x, foldedSetIterable e env x = pure x := by
  intro x
  cases e <;> first | rfl | cases h
theorem slice_ok {e : Expr} (h : notSlice e = true) : PlainIx e := by
  intro o i
  cases e <;> first | rfl | cases h
theorem test_ok {e : Expr} {env : Env} (h : plainTest e = true) : ∀ whole, isTrue e env whole = (do let v ← whole; standAt e.pos; holding [v] (truthy v)) := by
  intro whole
  cases e with
  | UnaryOp op a p => cases op <;> first | rfl | cases h
  | _ => first | rfl | cases h
theorem swap_ok {e : Expr} {tg : Option Expr} {l : Nat} {env : Env} (h : notComp e = true) : swapsWith e tg l env = pure false := by
  cases e <;> first | rfl | cases h

def opB : Operator → Option (D → D → Option RV)
  | .Add => some addD
  | .Sub => some subD
  | .Mult => some mulD
  | .FloorDiv => some fdivD
  | .Mod => some modD
  | .Pow => some powD
  | _ => none
def cmpB : CmpOp → Option (D → D → Option RV)
  | .Lt => some ltD
  | .LtE => some leD
  | .Gt => some gtD
  | .GtE => some geD
  | .Eq => some eqD
  | .NotEq => some neD
  | .In => some inD
  | .NotIn => some notInD
  | .Is => some isD
  | .IsNot => some isNotD
def bltB0 (x : Str) : Option (List D → Option RV) :=
  if x = ("len" : Str) then some lenD else if x = ("abs" : Str) then some absD else if x = ("max" : Str) then some maxD else if x = ("min" : Str) then some minD
  else if x = ("sum" : Str) then some sumD else if x = ("all" : Str) then some allD else if x = ("any" : Str) then some anyD else if x = ("divmod" : Str) then some divmodD
  else if x = ("int" : Str) then some intD else if x = ("tuple" : Str) then some tupleD else if x = ("list" : Str) then some listD
  else if x = ("str" : Str) then some strD else none
def bltB (x : Str) : Option (List D → Option RV) := if x = ("sorted" : Str) then some sortedD else bltB0 x
def tyB (x : Str) : Option String :=
  if x = ("int" : Str) then some "int" else if x = ("bool" : Str) then some "bool" else if x = ("str" : Str) then some "str" else if x = ("list" : Str) then some "list"
  else if x = ("tuple" : Str) then some "tuple" else if x = ("dict" : Str) then some "dict" else none
theorem opB_ok {X : Cx} {op : Operator} {g : D → D → Option RV} (h : opB op = some g) : OpR X (binaryOp op) (rD2 X.K g) := by
  cases op <;> first
    | (cases h; first | exact od_add | exact od_sub | exact od_mul | exact od_fdiv | exact od_mod | exact od_pow)
    | cases h
theorem cmpB_ok {X : Cx} (hu : X.A.units + 66 < cLine) {op : CmpOp} {g : D → D → Option RV} (h : cmpB op = some g) : OpR X (compareOp op) (rD2 X.K g) := by
  cases op <;> (cases h; first | exact od_lt hu | exact od_le hu | exact od_gt hu | exact od_ge hu | exact od_eq hu | exact od_ne hu | exact od_in hu | exact od_notIn hu | exact od_is | exact od_isNot)
theorem bltB0_ok {X : Cx} (hc : X.calm = true) {x : Str} {g : List D → Option RV} (h : bltB0 x = some g) :
    (∃ id, bootBuiltins x = some (.builtin id) ∧ CallR X (.builtin id) (rDs X.K g)) ∨ ∃ T, bootBuiltins x = some (.type T) ∧ CallR X (.type T) (rDs X.K g) := by
  unfold bltB0 at h
  repeat' split at h
  all_goals first
    | (rename_i e; subst e; cases h; first
        | exact .inl ⟨"len", by decide +kernel, cd_len⟩
        | exact .inl ⟨"abs", by decide +kernel, cd_abs⟩
        | exact .inl ⟨"max", by decide +kernel, cd_max hc⟩
        | exact .inl ⟨"min", by decide +kernel, cd_min hc⟩
        | exact .inl ⟨"sum", by decide +kernel, cd_sum hc⟩
        | exact .inl ⟨"all", by decide +kernel, cd_all hc⟩
        | exact .inl ⟨"any", by decide +kernel, cd_any hc⟩
        | exact .inl ⟨"divmod", by decide +kernel, cd_divmod⟩
        | exact .inr ⟨"int", by decide +kernel, cd_int⟩
        | exact .inr ⟨"tuple", by decide +kernel, cd_tuple⟩
        | exact .inr ⟨"list", by decide +kernel, cd_list hc⟩
        | exact .inr ⟨"str", by decide +kernel, cd_str⟩)
    | cases h
theorem bltB_ok {X : Cx} (hu : X.A.units + 66 < cLine) (hc : X.calm = true) {x : Str} {g : List D → Option RV} (h : bltB x = some g) :
    (∃ id, bootBuiltins x = some (.builtin id) ∧ CallR X (.builtin id) (rDs X.K g)) ∨ ∃ T, bootBuiltins x = some (.type T) ∧ CallR X (.type T) (rDs X.K g) := by
  unfold bltB at h
  split at h
  · rename_i e; subst e; cases h; exact .inl ⟨"sorted", by decide +kernel, cd_sorted hu⟩
  · exact bltB0_ok hc h
theorem tyB_ok {x : Str} {T : String} (h : tyB x = some T) : bootBuiltins x = some (.type T) ∧ T ∈ knownTy := by
  unfold tyB at h
  repeat' split at h
  all_goals first
    | (rename_i e; subst e; cases h; exact ⟨by decide +kernel, by decide⟩)
    | cases h

section
variable (T : Tab) (N : List Str) (c : Co)
/-- an operand -/
def cO (sc : Scope) (a : Expr) : Option MO := match a with
  | .Name x p => match locIx N sc x with
    | some i => some (oSl i)
    | none => (c.e sc (.Name x p)).bind fun f => some (oTv f)
  | a => (c.e sc a).bind fun f => some (oTv f)
def cOs (sc : Scope) : List Expr → Option MOs
  | [] => some osNil
  | e :: es => if notStar e then (cO N c sc e).bind fun f => (cOs sc es).bind fun g => some (osCons f g) else none
/-- values that are kept -/
def cTs (sc : Scope) : List Expr → Option MOs
  | [] => some osNil
  | e :: es => if notStar e then (c.e sc e).bind fun f => (cTs sc es).bind fun g => some (osCons (oTv f) g) else none
def isNm : Expr → Option Str
  | .Name x _ => some x
  | _ => none
def cAs (sc : Scope) : List Bool → List Expr → Option MAs
  | [], [] => some aNil
  | false :: ms, e :: es => if notStar e then (c.e sc e).bind fun f => (cAs sc ms es).bind fun g => some (aTv f g) else none
  | true :: ms, e :: es => if notStar e then match (isNm e).bind (locIx N sc) with
      | some i => (cAs sc ms es).bind fun g => some (aSl i g)
      | none => (c.e sc e).bind fun f => (cAs sc ms es).bind fun g => some (aOw f g)
    else none
  | _, _ => none
def cTys (sc : Scope) : List Expr → Option (List String)
  | [] => some []
  | .Name x _ :: es => if isGl sc x then (tyB x).bind fun t => (cTys sc es).bind fun r => some (t :: r) else none
  | _ :: _ => none
def cC : Const → Option D
  | .none => some .none
  | .bool b => some (.bool b)
  | .int i => some (.int i)
  | .str s => if PyData.strOk s then some (.str s) else none
  | _ => none
def cPart (sc : Scope) : Option Expr → Option MI
  | none => some iNo
  | some e => (c.e sc e).bind fun f => some (iSome f)
/-- a target: what it stores to -/
def cGs (f : Expr → Option (SG × List Nat)) : List Expr → Option (SGs × List Nat)
  | [] => some (gNil, [])
  | e :: es => if notStar e then (f e).bind fun g => (cGs f es).bind fun h => some (gCons g.1 h.1, g.2 ++ h.2) else none
def cG (pr : List Nat) (sc : Scope) : Nat → Expr → Option (SG × List Nat)
  | _, .Name x _ => if decide (sc.names.lookup x = some .local) || decide (sc.names.lookup x = some .cell) then (locIx N sc x).bind fun i => some (gN pr i, [i]) else none
  | n + 1, .Tuple es _ _ => (cGs (cG pr sc n) es).bind fun h => some (gTn es.length h.1, h.2)
  | _, .Subscript (.Name x _) ie _ => if notSlice ie then (locIx N sc x).bind fun i => (c.e sc ie).bind fun f => some (gIx i f, []) else none
  | _, _ => none
def isTup : Expr → Bool
  | .Tuple .. => true
  | _ => false
/-- what is walked -/
def cI (sc : Scope) (tg : Expr) (it : Expr) : Option MIt := match it with
  | .Call (.Name x p) es [] pos =>
    if isGl sc x && decide (x = ("range" : Str)) then (cTs c sc es).bind fun fs => match es with
      | [_] => some (iFn rng1 fs)
      | [_, _] => some (iFn rng2 fs)
      | [_, _, _] => some (iFn rng3 fs)
      | _ => none
    else if isGl sc x && decide (x = ("enumerate" : Str)) then if isTup tg then (cTs c sc es).bind fun fs => match es with
        | [_] => some (iFn enuD fs)
        | _ => none
      else none
    else if isGl sc x && decide (x = ("zip" : Str)) then if isTup tg then (cTs c sc es).bind fun fs => match es with
        | [_, _] => some (iFn zpD fs)
        | _ => none
      else none
    else (c.e sc (.Call (.Name x p) es [] pos)).bind fun f => some (iSeq f)
  | .Set _ _ _ => none
  | it => (c.e sc it).bind fun f => some (iSeq f)
def cTests (sc : Scope) : List Expr → Option MB
  | [] => some bYes
  | [t] => c.b sc t
  | _ => none
def ownOf (scope : Scope) : Option (List (Str × Nat)) := (scope.names.foldr (fun y r => match y.2 with
  | .local => match ixOf N y.1 with
    | some i => r.bind fun l => some ((y.1, i) :: l)
    | none => r
  | .cell => match ixOf N y.1 with
    | some i => r.bind fun l => some ((y.1, i) :: l)
    | none => r
  | _ => r) (some []))
def cLc (sc : Scope) (elt : Expr) (gs : List Comprehension) (scope : Scope) : Option ME := match gs with
  | [⟨tg, iter, ifs, 0⟩] => (ownOf N scope).bind fun own => if blkC N sc scope own && notSet iter then (cI c sc tg iter).bind fun fi => (cG N c [] scope 4 tg).bind fun g =>
      if g.2.all (fun i => (own.map (·.2)).contains i) then (cTests c scope ifs).bind fun t => (c.e scope elt).bind fun f => some (eLc (own.map (·.2)) fi g.1 t f) else none
    else none
  | _ => none
def cLc2 (sc : Scope) (elt : Expr) (gs : List Comprehension) (scope : Scope) : Option ME := match gs with
  | [⟨tg, iter, ifs, 0⟩, ⟨tg1, iter1, ifs1, 0⟩] => (ownOf N scope).bind fun own => if blkC N sc scope own && notSet iter && notSet iter1 then (cI c sc tg iter).bind fun fi => (cG N c [] scope 4 tg).bind fun g => (cI c scope tg1 iter1).bind fun fi1 => (cG N c [] scope 4 tg1).bind fun g1 =>
      if g.2.all (fun i => (own.map (·.2)).contains i) && g1.2.all (fun i => (own.map (·.2)).contains i) then (cTests c scope ifs).bind fun t => (cTests c scope ifs1).bind fun t1 => (c.e scope elt).bind fun f => some (eLc2 (own.map (·.2)) g1.2 fi g.1 t fi1 g1.1 t1 f) else none
    else none
  | _ => none
def cLcA (sc : Scope) (elt : Expr) (gs : List Comprehension) (scope : Scope) : Option ME := match gs with
  | [_, _] => cLc2 N c sc elt gs scope
  | _ => cLc N c sc elt gs scope
/-- the arguments of list(range(..)) -/
def rngOf (sc : Scope) : List Expr → Option (List Expr)
  | [.Call (.Name y _) es [] _] => if decide (y = ("range" : Str)) && isGl sc y then some es else none
  | _ => none
def cRg (sc : Scope) (lst : Bool) : List Expr → Option ME
  | [a] => if notStar a then (c.e sc a).bind fun f => some (eRg1 lst f) else none
  | [a, b] => if notStar a && notStar b then (c.e sc a).bind fun f => (c.e sc b).bind fun g => some (eRg2 lst f g) else none
  | _ => none
def cKw (sc : Scope) : List Keyword → Option (MOs × List Str)
  | [] => some (osNil, [])
  | ⟨some n, e, _⟩ :: r => (c.e sc e).bind fun f => (cKw sc r).bind fun g => some (osCons (oTv f) g.1, n :: g.2)
  | _ => none
def cCallK (sc : Scope) (x : Str) (es : List Expr) (kws : List Keyword) : Option ME :=
  if isGl sc x then (T.fn x).bind fun F => (cTs c sc es).bind fun fs => (cKw c sc kws).bind fun g => (T.kw x es.length g.2).bind fun pm => some (eCallK F es.length g.2.length pm fs g.1)
  else none
def cBlt (sc : Scope) (x : Str) (es : List Expr) : Option ME :=
  if decide (x = ("isinstance" : Str)) then match es with
        | [a, .Name t p] => if notStar a then (cO N c sc a).bind fun fo => (cTys sc [.Name t p]).bind fun Ts => some (eIsi Ts fo) else none
        | [a, .Tuple ts _ _] => if notStar a && szb ts.length then (cO N c sc a).bind fun fo => (cTys sc ts).bind fun Ts => some (eIsi Ts fo) else none
        | _ => none
  else if es.isEmpty then none else (bltB x).bind fun g => (cOs N c sc es).bind fun fs => some (eB g fs)
def cCall (sc : Scope) (x : Str) (es : List Expr) : Option ME :=
  if isGl sc x then match T.fn x with
    | some F => (cAs N c sc F.mask es).bind fun fs => some (eCall F fs)
    | none => if decide (x = ("list" : Str)) || decide (x = ("tuple" : Str)) then match rngOf sc es with
        | some as => cRg c sc (decide (x = ("list" : Str))) as
        | none => cBlt N c sc x es
      else cBlt N c sc x es
  else none
def okBase : Expr → Bool
  | .Name .. => true
  | .Constant .. => true
  | .Subscript .. => true
  | _ => false
/-- methods that only read -/
def cMet2 (sc : Scope) (o : Expr) (m : Str) (es : List Expr) : Option ME :=
  if okBase o then (methB m).bind fun g => (cO N c sc o).bind fun fo => match es with
    | [] => some (eMt g fo osNil)
    | [e] => if notStar e then (cOs N c sc [e]).bind fun fs => some (eMt g fo fs) else none
    | _ => none
  else none
def cMeth (sc : Scope) (o : Expr) (m : Str) (es : List Expr) (apos pos : Pos) : Option ME :=
  if apos.endLine == pos.line then match (isNm o).bind (locIx N sc) with
    | some i => if decide (m = ("append" : Str)) then match es with
        | [e] => if notStar e then (c.e sc e).bind fun f => some (eApp i f) else none
        | _ => none
      else if decide (m = ("pop" : Str)) then match es with
        | [] => some (ePop i)
        | [e] => if notStar e then (c.e sc e).bind fun f => some (ePopAt i f) else none
        | _ => none
      else if decide (m = ("get" : Str)) then match es with
        | [e] => if notStar e then (c.e sc e).bind fun f => some (eGet1 i f) else none
        | [e, x] => if notStar e && notStar x then (c.e sc e).bind fun f => (c.e sc x).bind fun g => some (eGet2 i f g) else none
        | _ => none
      else cMet2 N c sc o m es
    | none => cMet2 N c sc o m es
  else none
def cE (sc : Scope) : Expr → Option ME
  | .Constant k _ _ => (cC k).bind fun d => some (eC d)
  | .Name x _ => match locIx N sc x with
    | some i => some (eVar i)
    | none => if isGl sc x then (T.con x).bind fun d => some (eC d) else none
  | .BinOp a op b _ => (opB op).bind fun g => (cO N c sc a).bind fun fa => (cO N c sc b).bind fun fb => some (eOp2 g fa fb)
  | .UnaryOp .Not a _ => (c.e sc a).bind fun f => some (eNot f)
  | .UnaryOp .USub a _ => (cO N c sc a).bind fun f => some (eOp1 negD f)
  | .BoolOp _ [a] _ => c.e sc a
  | .BoolOp .And (a :: b :: es) pos => (c.e sc a).bind fun f => (c.e sc (.BoolOp .And (b :: es) pos)).bind fun g => some (eAnd f g)
  | .BoolOp .Or (a :: b :: es) pos => (c.e sc a).bind fun f => (c.e sc (.BoolOp .Or (b :: es) pos)).bind fun g => some (eOr f g)
  | .IfExp t a b _ => (c.b sc t).bind fun ft => (c.e sc a).bind fun fa => (c.e sc b).bind fun fb => some (eIf ft fa fb)
  | .Compare a [op] [b] _ => if notSet b then (cmpB op).bind fun g => (cO N c sc a).bind fun fa => (cO N c sc b).bind fun fb => some (eOp2 g fa fb) else none
  | .Compare a [op, op'] [b, d] _ => if notSet d then (cmpB op).bind fun g => (cmpB op').bind fun g' => (cO N c sc a).bind fun fa => (cO N c sc b).bind fun fb => (cO N c sc d).bind fun fd => some (eChain g g' fa fb fd) else none
  | .Subscript a (.Slice lo hi none _) _ => (cO N c sc a).bind fun fa => (cPart c sc lo).bind fun fl => (cPart c sc hi).bind fun fh => some (eSl fa fl fh)
  | .Subscript a (.Slice none none (some (.UnaryOp .USub (.Constant (.int 1) _ _) _)) _) _ => (cO N c sc a).bind fun fa => some (eOp1 revD fa)
  | .Dict ks vs _ => (cDic ks vs).bind fun kvs => if decide (kvs.length ≤ 15) then some (eDic kvs) else none
  | .Subscript a b _ => if notSlice b then (cO N c sc a).bind fun fa => (cO N c sc b).bind fun fb => some (eOp2 ixD fa fb) else none
  | .Tuple es _ _ => (cTs c sc es).bind fun fs => some (eTup fs)
  | .List es _ => (cTs c sc es).bind fun fs => some (eLst fs)
  | .ListComp elt gs scope _ => cLcA N c sc elt gs scope
  | .Call (.Name x _) es [] _ => cCall T N c sc x es
  | .Call (.Name x _) es kws _ => cCallK T c sc x es kws
  | .Call (.Attribute o m apos) es [] pos => cMeth N c sc o m es apos pos
  | _ => none
def cB (sc : Scope) : Expr → Option MB
  | .UnaryOp .Not a _ => (c.b sc a).bind fun f => some (bNot f)
  | .BoolOp _ [a] _ => c.b sc a
  | .BoolOp .And (a :: b :: es) pos => (c.b sc a).bind fun f => (c.b sc (.BoolOp .And (b :: es) pos)).bind fun g => some (bAnd f g)
  | .BoolOp .Or (a :: b :: es) pos => (c.b sc a).bind fun f => (c.b sc (.BoolOp .Or (b :: es) pos)).bind fun g => some (bOr f g)
  | .Compare a [op] [b] _ => if notSet b then (cmpB op).bind fun g => (cO N c sc a).bind fun fa => (cO N c sc b).bind fun fb => some (bOp2 g fa fb) else none
  | .Compare a [op, op'] [b, d] _ => if notSet d then (cmpB op).bind fun g => (cmpB op').bind fun g' => (cO N c sc a).bind fun fa => (cO N c sc b).bind fun fb => (cO N c sc d).bind fun fd => some (bChain g g' fa fb fd) else none
  | .IfExp t a b _ => (c.b sc t).bind fun ft => (c.b sc a).bind fun fa => (c.b sc b).bind fun fb => some (bIf ft fa fb)
  | e => if plainTest e then (cO N c sc e).bind fun f => some (bTru f) else none
end
def co (T : Tab) (N : List Str) : Nat → Co
  | 0 => ⟨fun _ _ => none, fun _ _ => none⟩
  | n + 1 => ⟨cE T N (co T N n), cB N (co T N n)⟩
end Z
namespace Z
open PySem PySem.Spec L2
open PyProof.Rows hiding St

/-! ## the compiled functions are sound: expressions -/
def bltNames : List Str := ["len", "abs", "max", "min", "sum", "all", "any", "divmod", "int", "tuple", "list", "isinstance", "range", "enumerate", "zip", "bool", "str", "dict", "sorted"]
structure TabOk (k : Nat) (T : Tab) (P : Program) (w : World) (K : PySem.W.Frag) (mg : Str → Option Value) (base : Heap) : Prop where
  fn : ∀ x F, T.fn x = some F → ∃ f fd ps, mg x = some (.ref f) ∧ PySem.W.keepIn K (.ref f) = true ∧ Binds K fd ps [] ∧ FnOk P w K mg base CX0 k f fd ps (spF K F) ∧ ∀ n ks pm, T.kw x n ks = some pm → KwOk K fd ps ks n pm
  con : ∀ x d, T.con x = some d → ∃ v u, mg x = some u ∧ RelV v u ∧ ∀ H O, Rep K H O d v
  blt : ∀ x ∈ bltNames, mg x = none
structure Ctx (k : Nat) (T : Tab) (N : List Str) (sc : Scope) (X : Cx) : Prop where
  hN : X.N = N
  nd : N.Nodup
  calm : X.calm = true
  room : Room k X.A
  pass : PassesOwn (model X.prog X.w) X.A X.env X.xe
  fit : ∀ x kd, sc.names.lookup x = some kd → (kd ≠ .free → X.env.scope.names.lookup x = some kd) ∧ (kd = .free → X.env.scope.names.lookup x = some .free ∨ X.env.scope.names.lookup x = some .cell)
  fnc : ∀ x, sc.names.lookup x = some .cell → X.fn x = true
  tab : TabOk k T X.prog X.w X.K X.mg X.base
section
variable {k : Nat} {T : Tab} {N : List Str} {sc : Scope} {X : Cx}
theorem lookup_relS_free {sc : Scope} : ∀ {names : List (Str × NameKind)} {x : Str}, names.lookup x = some .free →
    (names.map fun (n, k) => if (k == NameKind.free && sc.kind == .function && sc.names.lookup n == some .cell) then (n, NameKind.cell) else (n, k)).lookup x = some .free ∨
    (names.map fun (n, k) => if (k == NameKind.free && sc.kind == .function && sc.names.lookup n == some .cell) then (n, NameKind.cell) else (n, k)).lookup x = some .cell
  | [], _, h => by simp at h
  | (n, k₀) :: r, x, h => by
    have ih := @lookup_relS_free sc r x
    rw [List.map_cons]
    dsimp only
    cases hx : x == n with
    | true =>
      simp only [List.lookup_cons, hx] at h
      cases h
      by_cases hc : (NameKind.free == NameKind.free && sc.kind == .function && sc.names.lookup n == some .cell) = true
      · rw [if_pos hc]; simp [List.lookup_cons, hx]
      · rw [if_neg hc]; simp [List.lookup_cons, hx]
    | false =>
      simp only [List.lookup_cons, hx] at h
      by_cases hc : (k₀ == NameKind.free && sc.kind == .function && sc.names.lookup n == some .cell) = true
      · rw [if_pos hc]; simp only [List.lookup_cons, hx]; exact ih h
      · rw [if_neg hc]; simp only [List.lookup_cons, hx]; exact ih h
theorem Ctx.blk (C : Ctx k T N sc X) {scope : Scope} (s : Shared) (H : Hp) (A : Addr) (cl : List (Str × Addr)) (fp : List Addr) : Ctx k T N scope (X.blk s H scope (compEnvC scope cl A X.env) fp) := by
  refine ⟨C.hN, C.nd, C.calm, C.room, PassesOwn.never, fun x kd h => ⟨fun hk => ?_, fun hk => ?_⟩, fun x h => ?_, C.tab⟩
  · exact lookup_relS_keep (sc := X.env.scope) hk h
  · subst hk
    exact lookup_relS_free (sc := X.env.scope) h
  · show (scope.names.lookup x == some NameKind.cell) = true
    rw [h]; rfl
theorem Ctx.hu0 (C : Ctx k T N sc X) : X.A.units + 66 < cLine := by have := C.room.un; omega
theorem Ctx.gl (C : Ctx k T N sc X) {x : Str} (h : isGl sc x = true) : Gl X x ∧ (x == ("__debug__" : Str)) = false ∧ x ≠ "__name__" := by
  unfold isGl okNm at h
  simp only [Bool.and_eq_true, Bool.not_eq_true', decide_eq_true_eq] at h
  obtain ⟨⟨⟨h1, h2⟩, h3⟩, h4⟩ := h
  exact ⟨(C.fit x _ h4).1 (by decide), h1, by simpa using h3⟩
theorem Ctx.var (C : Ctx k T N sc X) {x : Str} {i : Nat} {p : Pos} (h : locIx N sc x = some i) : PE X (.Name x p) (tVar i) := by
  have key : (Vis X.env.scope x) → (if okNm x then ixOf N x else none) = some i → PE X (.Name x p) (tVar i) := fun v h => by
    split at h
    · rename_i o
      unfold okNm at o
      simp only [Bool.and_eq_true, Bool.not_eq_true'] at o
      exact pe_var (by rw [C.hN]; exact ixOf_ok h) v o.1.1 o.1.2
    · cases h
  unfold locIx at h
  split at h
  · rename_i e; exact key (.inl ((C.fit x _ e).1 (by decide))) h
  · rename_i e; exact key (.inr (.inl ((C.fit x _ e).1 (by decide)))) h
  · rename_i e
    refine key ?_ h
    rcases (C.fit x _ e).2 rfl with q | q
    · exact .inr (.inr q)
    · exact .inr (.inl q)
  · cases h
theorem locIx_ix {x : Str} {i : Nat} (h : locIx N sc x = some i) : N[i]? = some x := by
  unfold locIx at h
  split at h <;> first
    | (split at h <;> first | exact ixOf_ok h | cases h)
    | cases h
theorem Ctx.name (C : Ctx k T N sc X) {x : Str} {i : Nat} {p : Pos} (h : locIx N sc x = some i) (hk : sc.names.lookup x = some .local ∨ sc.names.lookup x = some .cell) : PG X (.Name x p) (gName i) := by
  have hi : X.N[i]? = some x := by rw [C.hN]; exact locIx_ix h
  have nd : X.N.Nodup := by rw [C.hN]; exact C.nd
  rcases hk with e | e
  · have q := (C.fit x _ e).1 (by decide)
    exact pg_name nd hi (.inl q) (.inr q)
  · exact pg_name nd hi (.inr ((C.fit x _ e).1 (by decide))) (.inl (C.fnc x e))
theorem plain_ok {env : Env} {pos : Pos} : ∀ {es : List Expr}, es.all notStar = true → (backTo pos (starEach es env)).any (·.1) = false
  | [], _ => rfl
  | e :: es, h => by
    simp only [List.all_cons, Bool.and_eq_true] at h
    rw [star_ok h.1]
    have ih := plain_ok (pos := pos) (env := env) h.2
    unfold backTo at ih ⊢
    rw [List.map_cons, List.any_cons, ih]; rfl

structure CoOk (k : Nat) (T : Tab) (N : List Str) (c : Co) : Prop where
  e : ∀ {sc : Scope} {X : Cx} {e : Expr} {f : ME}, Ctx k T N sc X → c.e sc e = some f → PE X e (tE X f)
  b : ∀ {sc : Scope} {X : Cx} {e : Expr} {f : MB}, Ctx k T N sc X → c.b sc e = some f → PT X e (tT X f)
  w : ∀ {sc : Scope} {X : Cx} {op : BoolOp} {es : List Expr} {pos : Pos} {f : MB}, Ctx k T N sc X → c.b sc (.BoolOp op es pos) = some f → PW X (.BoolOp op es pos) (tT X f)
variable {c : Co}
theorem cO_ok (S : CoOk k T N c) (C : Ctx k T N sc X) {a : Expr} {f : MO} (h : cO N c sc a = some f) : PE X a (tOpd X f) := by
  unfold cO at h
  split at h
  · split at h
    · rename_i i hi
      cases h
      exact zpo_slot (C.var hi)
    · obtain ⟨g, h1, h2⟩ := bindS h
      cases h2
      exact zpo_tv (S.e C h1)
  · obtain ⟨g, h1, h2⟩ := bindS h
    cases h2
    exact zpo_tv (S.e C h1)
theorem cOs_ok (S : CoOk k T N c) (C : Ctx k T N sc X) : ∀ {es : List Expr} {f : MOs}, cOs N c sc es = some f → PA X es (tOps X f) ∧ es.all notStar = true
  | [], f, h => by cases h; exact ⟨zpa_nil, rfl⟩
  | e :: es, f, h => by
    unfold cOs at h
    split at h
    · rename_i hs
      obtain ⟨g, h1, h⟩ := bindS h
      obtain ⟨g2, h2, h⟩ := bindS h
      cases h
      obtain ⟨i1, i2⟩ := cOs_ok S C h2
      exact ⟨zpa_cons (cO_ok S C h1) i1 (star_ok hs), by rw [List.all_cons, hs, i2]; rfl⟩
    · cases h
theorem cTs_ok (S : CoOk k T N c) (C : Ctx k T N sc X) : ∀ {es : List Expr} {f : MOs}, cTs c sc es = some f → PA X es (tOps X f) ∧ es.all notStar = true
  | [], f, h => by cases h; exact ⟨zpa_nil, rfl⟩
  | e :: es, f, h => by
    unfold cTs at h
    split at h
    · rename_i hs
      obtain ⟨g, h1, h⟩ := bindS h
      obtain ⟨g2, h2, h⟩ := bindS h
      cases h
      obtain ⟨i1, i2⟩ := cTs_ok S C h2
      exact ⟨zpa_cons (zpo_tv (S.e C h1)) i1 (star_ok hs), by rw [List.all_cons, hs, i2]; rfl⟩
    · cases h
theorem isNm_var (C : Ctx k T N sc X) {e : Expr} {i : Nat} (h : (isNm e).bind (locIx N sc) = some i) : PE X e (tVar i) := by
  obtain ⟨x, h1, h2⟩ := bindS h
  cases e <;> first
    | (cases h1; exact C.var h2)
    | cases h1
theorem cAs_ok (S : CoOk k T N c) (C : Ctx k T N sc X) : ∀ {mask : List Bool} {es : List Expr} {f : MAs}, cAs N c sc mask es = some f → PA X es (tAs X f) ∧ es.all notStar = true ∧ (es = [] → f = aNil)
  | [], [], f, h => by cases h; exact ⟨za_nil, rfl, fun _ => rfl⟩
  | false :: ms, e :: es, f, h => by
    unfold cAs at h
    split at h
    · rename_i hs
      obtain ⟨g, h1, h⟩ := bindS h
      obtain ⟨g2, h2, h⟩ := bindS h
      cases h
      obtain ⟨i1, i2, _⟩ := cAs_ok S C h2
      exact ⟨za_tv (S.e C h1) i1 (star_ok hs), by rw [List.all_cons, hs, i2]; rfl, fun h => by cases h⟩
    · cases h
  | true :: ms, e :: es, f, h => by
    unfold cAs at h
    split at h
    · rename_i hs
      split at h
      · rename_i i hi
        obtain ⟨g2, h2, h⟩ := bindS h
        cases h
        obtain ⟨i1, i2, _⟩ := cAs_ok S C h2
        exact ⟨za_sl (isNm_var C hi) i1 (star_ok hs), by rw [List.all_cons, hs, i2]; rfl, fun h => by cases h⟩
      · obtain ⟨g, h1, h⟩ := bindS h
        obtain ⟨g2, h2, h⟩ := bindS h
        cases h
        obtain ⟨i1, i2, _⟩ := cAs_ok S C h2
        exact ⟨za_ow (S.e C h1) i1 (star_ok hs), by rw [List.all_cons, hs, i2]; rfl, fun h => by cases h⟩
    · cases h
  | [], _ :: _, _, h => by cases h
  | false :: _, [], _, h => by cases h
  | true :: _, [], _, h => by cases h
theorem cTys_ok (C : Ctx k T N sc X) : ∀ {es : List Expr} {Ts : List String}, cTys sc es = some Ts → PA X es (tTys Ts) ∧ es.all notStar = true ∧ (∀ t ∈ Ts, t ∈ knownTy) ∧ Ts.length = es.length
  | [], Ts, h => by cases h; exact ⟨zt_nil, rfl, (fun t h => by cases h), rfl⟩
  | e :: es, Ts, h => by
    unfold cTys at h
    split at h
    · rename_i e1; cases e1
    · rename_i x p es' heq
      cases heq
      split at h
      · rename_i hg
        obtain ⟨t, h1, h⟩ := bindS h
        obtain ⟨r, h2, h⟩ := bindS h
        cases h
        obtain ⟨i1, i2, i3, i4⟩ := cTys_ok C h2
        obtain ⟨t1, t2⟩ := tyB_ok h1
        obtain ⟨g1, g2, g3⟩ := C.gl hg
        have hm : X.mg x = none := by
          refine C.tab.blt x ?_
          unfold tyB at h1
          repeat' split at h1
          all_goals first
            | (rename_i e; rw [e]; decide)
            | cases h1
        refine ⟨zt_cons (pe_bltn g1 hm t1 (show RelV (.ty t) (.type t) from rfl) g3 g2) i1 (star_ok rfl), by rw [List.all_cons, i2]; rfl, fun u hu => ?_, by simp [i4]⟩
        rcases List.mem_cons.mp hu with e | hu
        · rw [e]; exact t2
        · exact i3 u hu
      · cases h
    · cases h
theorem cC_ok {kc : Const} {d : D} {j : Nat} {pos : Pos} (h : cC kc = some d) : PE X (.Constant kc j pos) (tE X (eC d)) := by
  unfold cC at h
  split at h
  · cases h; exact zpe_const pe_non (fun _ _ => .non)
  · cases h; exact zpe_const pe_bl (fun _ _ => .bl _)
  · cases h; exact zpe_const pe_int (fun _ _ => .int _)
  · split at h
    · rename_i hs
      cases h; exact zpe_const pe_str (fun _ _ => .str _ hs)
    · cases h
  · cases h
theorem cPart_ok (S : CoOk k T N c) (C : Ctx k T N sc X) {o : Option Expr} {f : MI} (h : cPart c sc o = some f) : PO X o (tI X f) := by
  unfold cPart at h
  split at h
  · cases h; exact zpi_no
  · obtain ⟨g, h1, h⟩ := bindS h
    cases h
    exact zpi_some (S.e C h1)
theorem eachG {env : Env} : ∀ {es : List Expr}, es.all notStar = true → (assignEach es env).findIdx? (·.1) = none ∧ (assignEach es env).length = es.length
  | [], _ => ⟨rfl, rfl⟩
  | e :: es, h => by
    simp only [List.all_cons, Bool.and_eq_true] at h
    obtain ⟨h1, h2⟩ := eachG (env := env) h.2
    have q : assignEach (e :: es) env = (false, assign e env) :: assignEach es env := by
      cases e <;> first | rfl | (exact absurd h.1 (by simp [notStar]))
    rw [q, List.findIdx?_cons, h1, List.length_cons, h2]
    exact ⟨rfl, rfl⟩
theorem eachG_cons {env : Env} {e : Expr} {es : List Expr} (h : notStar e = true) : (assignEach (e :: es) env).map (·.2) = assign e env :: (assignEach es env).map (·.2) := by
  cases e <;> first | rfl | (exact absurd h (by simp [notStar]))
theorem asg_ok {o ie : Expr} {pos : Pos} {env : Env} (h : notSlice ie = true) : ∀ v, assign (.Subscript o ie pos) env v = (do
      let ov ← holding [v] (eval o env)
      let iv ← holding [v, ov] (eval ie env)
      standAt pos
      holding [v, ov, iv] (setItem ov iv v)
      release [v, ov, iv] []) := by
  intro v
  cases ie <;> first | rfl | cases h
theorem cGs_ok {pr : List Nat} {F : Expr → Option (SG × List Nat)} (ih : ∀ {e : Expr} {g : SG} {tv : List Nat}, F e = some (g, tv) → PG X e (tG X pr tv g)) : ∀ {es : List Expr} {g : SGs} {tv : List Nat}, cGs F es = some (g, tv) → PGs X es (tGs X pr tv g) ∧ es.all notStar = true
  | [], g, tv, h => by cases h; exact ⟨zgs_nil, rfl⟩
  | e :: es, g, tv, h => by
    unfold cGs at h
    split at h
    · rename_i hs
      obtain ⟨⟨g1, t1⟩, h1, h⟩ := bindS h
      obtain ⟨⟨g2, t2⟩, h2, h⟩ := bindS h
      cases h
      obtain ⟨i1, i2⟩ := cGs_ok ih h2
      exact ⟨zgs_cons (ih h1) i1 (eachG_cons hs), by rw [List.all_cons, hs, i2]; rfl⟩
    · cases h
theorem cG_ok (S : CoOk k T N c) (C : Ctx k T N sc X) {pr : List Nat} : ∀ (n : Nat) {e : Expr} {g : SG} {tv : List Nat}, cG N c pr sc n e = some (g, tv) → PG X e (tG X pr tv g) := by
  intro n
  induction n with
  | zero =>
    intro e g tv h
    unfold cG at h
    split at h
    · split at h
      · rename_i hk
        rw [Bool.or_eq_true, decide_eq_true_eq, decide_eq_true_eq] at hk
        obtain ⟨i, h1, h⟩ := bindS h
        cases h
        exact zg_name (C.name h1 hk)
      · cases h
    · rename_i heq; cases heq
    · split at h
      · rename_i hs
        obtain ⟨i, h1, h⟩ := bindS h
        obtain ⟨f, h2, h⟩ := bindS h
        cases h
        exact zg_ix (Ctx.hu0 C) (C.var h1) (S.e C h2) (asg_ok hs)
      · cases h
    · cases h
  | succ n ih =>
    intro e g tv h
    unfold cG at h
    split at h
    · split at h
      · rename_i hk
        rw [Bool.or_eq_true, decide_eq_true_eq, decide_eq_true_eq] at hk
        obtain ⟨i, h1, h⟩ := bindS h
        cases h
        exact zg_name (C.name h1 hk)
      · cases h
    · rename_i heq
      cases heq
      obtain ⟨⟨g2, t2⟩, h1, h⟩ := bindS h
      cases h
      obtain ⟨i1, i2⟩ := cGs_ok (fun h => ih h) h1
      obtain ⟨q1, q2⟩ := eachG (env := X.env) i2
      exact zg_tup C.calm i1 q2 q1
    · split at h
      · rename_i hs
        obtain ⟨i, h1, h⟩ := bindS h
        obtain ⟨f, h2, h⟩ := bindS h
        cases h
        exact zg_ix (Ctx.hu0 C) (C.var h1) (S.e C h2) (asg_ok hs)
      · cases h
    · cases h
end
end Z
namespace Z
open PySem PySem.Spec L2
open PyProof.Rows hiding St
section
variable {k : Nat} {T : Tab} {N : List Str} {sc : Scope} {X : Cx} {c : Co}
theorem Ctx.bn (C : Ctx k T N sc X) {x : Str} (h : x ∈ bltNames := by decide) : X.mg x = none := C.tab.blt x h
theorem s1 {a : Expr} {env : Env} (h : [a].all notStar = true) : starEach [a] env = [(false, eval a env)] := star_ok (by simpa using h)
theorem cI_ok (S : CoOk k T N c) (C : Ctx k T N sc X) {tg it : Expr} {f : MIt} (h : cI c sc tg it = some f) : PI X tg it (tIt X f) := by
  unfold cI at h
  split at h
  · rename_i x p es pos
    split at h
    · rename_i hc
      rw [Bool.and_eq_true, decide_eq_true_eq] at hc
      obtain ⟨hg, e⟩ := hc
      subst e
      obtain ⟨g1, g2, g3⟩ := C.gl hg
      obtain ⟨fs, h1, h⟩ := bindS h
      obtain ⟨i1, i2⟩ := cTs_ok S C h1
      split at h
      · cases h; exact zi_range1 g1 C.bn i1 (s1 i2)
      · cases h
        simp only [List.all_cons, Bool.and_eq_true] at i2
        obtain ⟨a1, a2, _⟩ := i2
        exact zi_range2 g1 C.bn i1 (by rw [star_ok a1, star_ok a2]; rfl) (by rw [star_ok a2]; rfl)
      · cases h
        have i3 := i2
        simp only [List.all_cons, Bool.and_eq_true] at i2
        obtain ⟨a1, a2, a3, _⟩ := i2
        exact zi_range3 g1 C.bn i1 (star_ok a1) (plain_ok (by simp [a2, a3]))
      · cases h
    · split at h
      · rename_i hc
        rw [Bool.and_eq_true, decide_eq_true_eq] at hc
        obtain ⟨hg, e⟩ := hc
        subst e
        obtain ⟨g1, g2, g3⟩ := C.gl hg
        split at h
        · rename_i ht
          obtain ⟨fs, h1, h⟩ := bindS h
          obtain ⟨i1, i2⟩ := cTs_ok S C h1
          split at h
          · cases h
            cases tg <;> first
              | exact zi_enum g1 C.bn i1 (s1 i2)
              | cases ht
          · cases h
        · cases h
      · split at h
        · rename_i hc
          rw [Bool.and_eq_true, decide_eq_true_eq] at hc
          obtain ⟨hg, e⟩ := hc
          subst e
          obtain ⟨g1, g2, g3⟩ := C.gl hg
          split at h
          · rename_i ht
            obtain ⟨fs, h1, h⟩ := bindS h
            obtain ⟨i1, i2⟩ := cTs_ok S C h1
            split at h
            · cases h
              simp only [List.all_cons, Bool.and_eq_true] at i2
              obtain ⟨a1, a2, _⟩ := i2
              cases tg <;> first
                | exact zi_zip g1 C.bn i1 (star_ok a1) (plain_ok (by simp [a2]))
                | cases ht
            · cases h
          · cases h
        · obtain ⟨g, h1, h⟩ := bindS h
          cases h
          exact zi_seq (S.e C h1)
  · cases h
  · obtain ⟨g, h1, h⟩ := bindS h
    cases h
    exact zi_seq (S.e C h1)
theorem cTests_ok (S : CoOk k T N c) (C : Ctx k T N sc X) {ts : List Expr} {f : MB} (h : cTests c sc ts = some f) : PTs X ts (tT X f) := by
  unfold cTests at h
  split at h
  · cases h; exact zts_nil
  · exact pts_one (S.b C h)
  · cases h
theorem blkC_fit (C : Ctx k T N sc X) {scope : Scope} {own : List (Str × Nat)} (h : blkC N sc scope own = true) : BlkOk X.N X.env.scope scope own := by
  have b := blkOk_by h
  rw [C.hN]
  refine ⟨b.kind, b.uniq, b.ix, fun y hy e => ?_, b.own⟩
  rcases b.free y hy e with q | q
  · exact .inl ((C.fit _ _ q).1 (by decide))
  · exact ((C.fit _ _ q).2 rfl).symm
theorem cLc_get {elt : Expr} {gs : List Comprehension} {scope : Scope} {f : ME} (h : cLc N c sc elt gs scope = some f) :
    ∃ tg iter ifs own fi g tv t fe, gs = [⟨tg, iter, ifs, 0⟩] ∧ f = eLc (own.map (·.2)) fi g t fe ∧ blkC N sc scope own = true ∧ notSet iter = true ∧ cI c sc tg iter = some fi ∧ cG N c [] scope 4 tg = some (g, tv) ∧ (∀ i ∈ tv, i ∈ own.map (·.2)) ∧ cTests c scope ifs = some t ∧ c.e scope elt = some fe := by
  unfold cLc at h
  split at h
  · rename_i tg iter ifs
    obtain ⟨own, h1, h⟩ := bindS h
    split at h
    · rename_i hc
      rw [Bool.and_eq_true] at hc
      obtain ⟨fi, h2, h⟩ := bindS h
      obtain ⟨⟨g, tv⟩, h3, h⟩ := bindS h
      split at h
      · rename_i ht
        obtain ⟨t, h4, h⟩ := bindS h
        obtain ⟨fe, h5, h⟩ := bindS h
        cases h
        refine ⟨tg, iter, ifs, own, fi, g, tv, t, fe, rfl, rfl, hc.1, hc.2, h2, h3, fun i hi => ?_, h4, h5⟩
        have := List.all_eq_true.mp ht i hi
        simpa using this
      · cases h
    · cases h
  · cases h
theorem cLc_ok (S : CoOk k T N c) (C : Ctx k T N sc X) {elt : Expr} {gs : List Comprehension} {scope : Scope} {pos : Pos} {f : ME} (h : cLc N c sc elt gs scope = some f) : PE X (.ListComp elt gs scope pos) (tE X f) := by
  obtain ⟨tg, iter, ifs, own, fi, g, tv, t, fe, rfl, rfl, h1, h2, h3, h4, h5, h6, h7⟩ := cLc_get h
  exact zpe_lc C.calm (by rw [C.hN]; exact C.nd) (cI_ok S C h3) (blkC_fit C h1) (fun s H A cl fp => cG_ok S (C.blk s H A cl fp) 4 h4) (fun s H A cl fp => cTests_ok S (C.blk s H A cl fp) h6) (fun s H A cl fp => S.e (C.blk s H A cl fp) h7) (fold_ok h2) h5
theorem cLc2_get {elt : Expr} {gs : List Comprehension} {scope : Scope} {f : ME} (h : cLc2 N c sc elt gs scope = some f) :
    ∃ tg iter ifs tg1 iter1 ifs1 own fi g tv fi1 g1 vs1 t t1 fe, gs = [⟨tg, iter, ifs, 0⟩, ⟨tg1, iter1, ifs1, 0⟩] ∧ f = eLc2 (own.map (·.2)) vs1 fi g t fi1 g1 t1 fe ∧ blkC N sc scope own = true ∧ notSet iter = true ∧ notSet iter1 = true ∧ cI c sc tg iter = some fi ∧ cG N c [] scope 4 tg = some (g, tv) ∧
      cI c scope tg1 iter1 = some fi1 ∧ cG N c [] scope 4 tg1 = some (g1, vs1) ∧ (∀ i ∈ tv, i ∈ own.map (·.2)) ∧ (∀ i ∈ vs1, i ∈ own.map (·.2)) ∧ cTests c scope ifs = some t ∧ cTests c scope ifs1 = some t1 ∧ c.e scope elt = some fe := by
  unfold cLc2 at h
  split at h
  · rename_i tg iter ifs tg1 iter1 ifs1
    obtain ⟨own, h1, h⟩ := bindS h
    split at h
    · rename_i hc
      simp only [Bool.and_eq_true] at hc
      obtain ⟨fi, h2, h⟩ := bindS h
      obtain ⟨⟨g, tv⟩, h3, h⟩ := bindS h
      obtain ⟨fi1, h4, h⟩ := bindS h
      obtain ⟨⟨g1, vs1⟩, h5, h⟩ := bindS h
      split at h
      · rename_i ht
        rw [Bool.and_eq_true] at ht
        obtain ⟨t, h6, h⟩ := bindS h
        obtain ⟨t1, h7, h⟩ := bindS h
        obtain ⟨fe, h8, h⟩ := bindS h
        cases h
        refine ⟨tg, iter, ifs, tg1, iter1, ifs1, own, fi, g, tv, fi1, g1, vs1, t, t1, fe, rfl, rfl, hc.1.1, hc.1.2, hc.2, h2, h3, h4, h5, fun i hi => ?_, fun i hi => ?_, h6, h7, h8⟩
        · have := List.all_eq_true.mp ht.1 i hi
          simpa using this
        · have := List.all_eq_true.mp ht.2 i hi
          simpa using this
      · cases h
    · cases h
  · cases h
theorem cLc2_ok (S : CoOk k T N c) (C : Ctx k T N sc X) {elt : Expr} {gs : List Comprehension} {scope : Scope} {pos : Pos} {f : ME} (h : cLc2 N c sc elt gs scope = some f) : PE X (.ListComp elt gs scope pos) (tE X f) := by
  obtain ⟨tg, iter, ifs, tg1, iter1, ifs1, own, fi, g, tv, fi1, g1, vs1, t, t1, fe, rfl, rfl, b1, b2, b3, b4, b5, b6, b7, b8, b9, b10, b11, b12⟩ := cLc2_get h
  exact zpe_lc2 C.calm (by rw [C.hN]; exact C.nd) (cI_ok S C b4) (blkC_fit C b1) b9 (fun s H A cl fp => cG_ok S (C.blk s H A cl fp) 4 b5) (fun s H A cl fp => cTests_ok S (C.blk s H A cl fp) b10) (fun s H A cl fp => cI_ok S (C.blk s H A cl fp) b6) (fun s H A cl fp => cG_ok S (C.blk s H A cl fp) 4 b7) (fun s H A cl fp => cTests_ok S (C.blk s H A cl fp) b11)
    (fun s H A cl fp => S.e (C.blk s H A cl fp) b12) (fold_ok b2) (fun env => fold_ok b3) b8
theorem cLcA_ok (S : CoOk k T N c) (C : Ctx k T N sc X) {elt : Expr} {gs : List Comprehension} {scope : Scope} {pos : Pos} {f : ME} (h : cLcA N c sc elt gs scope = some f) : PE X (.ListComp elt gs scope pos) (tE X f) := by
  unfold cLcA at h
  split at h
  · exact cLc2_ok S C h
  · exact cLc_ok S C h
theorem cKw_ok (S : CoOk k T N c) (C : Ctx k T N sc X) {pos : Pos} : ∀ {kws : List Keyword} {g : MOs × List Str}, cKw c sc kws = some g →
    PK X kws (tOps X g.1) ∧ (backToKw pos (keywordEach kws X.env)).all (·.1.isSome) = true ∧ (backToKw pos (keywordEach kws X.env)).filterMap (·.1) = g.2 ∧ (backToKw pos (keywordEach kws X.env)).any (·.1.isNone) = false
  | [], g, h => by cases h; exact ⟨zpk_nil, rfl, rfl, rfl⟩
  | ⟨some n, e, p⟩ :: kws, g, h => by
    obtain ⟨f, h1, h⟩ := bindS h
    obtain ⟨g2, h2, h⟩ := bindS h
    cases h
    obtain ⟨i1, i2, i3, i4⟩ := cKw_ok S C (pos := pos) h2
    refine ⟨zpk_cons (zpo_tv (S.e C h1)) i1, ?_, ?_, ?_⟩
    · show (true && _) = true
      rw [Bool.true_and]; exact i2
    · show n :: _ = n :: g2.2
      rw [← i3]; rfl
    · show (false || _) = false
      rw [Bool.false_or]; exact i4
  | ⟨none, e, p⟩ :: kws, g, h => by cases h
theorem cCallK_ok (S : CoOk k T N c) (C : Ctx k T N sc X) {x : Str} {es : List Expr} {kws : List Keyword} {p pos : Pos} {f : ME} (h : cCallK T c sc x es kws = some f) : PE X (.Call (.Name x p) es kws pos) (tE X f) := by
  unfold cCallK at h
  split at h
  · rename_i hg
    obtain ⟨g1, g2, g3⟩ := C.gl hg
    obtain ⟨F, h1, h⟩ := bindS h
    obtain ⟨fs, h2, h⟩ := bindS h
    obtain ⟨g, h3, h⟩ := bindS h
    obtain ⟨pm, h4, h⟩ := bindS h
    cases h
    obtain ⟨f0, fd, ps, m1, m2, m3, m4, m5⟩ := C.tab.fn x F h1
    obtain ⟨i1, i2⟩ := cTs_ok S C h2
    obtain ⟨k1, k2, k3, k4⟩ := cKw_ok S C (pos := pos) h3
    cases es with
    | nil =>
      cases h2
      exact zpe_callK0 m4 C.room g1 m1 m2 (m5 _ _ _ h4) k1 k2 k3 g2 k4
    | cons e es =>
      exact zpe_callK m4 C.room g1 m1 m2 (m5 _ _ _ h4) i1 k1 k2 k3 g2 (star_ok (by simp at i2; exact i2.1)) (plain_ok i2) k4
  · cases h
theorem cBlt_ok (S : CoOk k T N c) (C : Ctx k T N sc X) {x : Str} {es : List Expr} {p pos : Pos} {f : ME} (hg : isGl sc x = true) (h : cBlt N c sc x es = some f) : PE X (.Call (.Name x p) es [] pos) (tE X f) := by
  obtain ⟨g1, g2, g3⟩ := C.gl hg
  unfold cBlt at h
  split at h
  · rename_i e
    rw [decide_eq_true_eq] at e
    subst e
    split at h
    · rename_i a t p1
      split at h
      · rename_i hs
        obtain ⟨fo, h1, h⟩ := bindS h
        obtain ⟨Ts, h2, h⟩ := bindS h
        cases h
        unfold cTys at h2
        split at h2
        · rename_i hg2
          obtain ⟨T1, h3, h2⟩ := bindS h2
          obtain ⟨r, h4, h2⟩ := bindS h2
          cases h4
          cases h2
          obtain ⟨t1, t2⟩ := tyB_ok h3
          obtain ⟨q1, q2, q3⟩ := C.gl hg2
          have hm : X.mg t = none := by
            refine C.tab.blt t ?_
            unfold tyB at h3
            repeat' split at h3
            all_goals first
              | (rename_i e; rw [e]; decide)
              | cases h3
          exact zpe_isi1 t2 g1 C.bn (cO_ok S C h1) (pe_bltn q1 hm t1 (show RelV (.ty T1) (.type T1) from rfl) q3 q2) (star_ok hs) (star_ok rfl) (plain_ok rfl)
        · cases h2
      · cases h
    · rename_i a ts p1 p2
      split at h
      · rename_i hc
        rw [Bool.and_eq_true] at hc
        obtain ⟨fo, h1, h⟩ := bindS h
        obtain ⟨Ts, h2, h⟩ := bindS h
        cases h
        obtain ⟨i1, i2, i3, i4⟩ := cTys_ok C h2
        exact zpe_isiT i3 (by rw [i4]; exact hc.2) g1 C.bn (cO_ok S C h1) i1 (star_ok hc.1) (star_ok rfl) (plain_ok rfl)
      · cases h
    · cases h
  · split at h
    · cases h
    · rename_i hne
      obtain ⟨g, h1, h⟩ := bindS h
      obtain ⟨fs, h2, h⟩ := bindS h
      cases h
      obtain ⟨i1, i2⟩ := cOs_ok S C h2
      have hm : X.mg x = none := by
        refine C.tab.blt x ?_
        unfold bltB at h1
        split at h1
        · rename_i e; rw [e]; decide
        · unfold bltB0 at h1
          repeat' split at h1
          all_goals first
            | (rename_i e; rw [e]; decide)
            | cases h1
      cases es with
      | nil => exact absurd rfl hne
      | cons e es =>
        have i3 := i2
        simp only [List.all_cons, Bool.and_eq_true] at i2
        rcases bltB_ok (Ctx.hu0 C) C.calm h1 with ⟨id, b1, b2⟩ | ⟨id, b1, b2⟩
        · exact ⟨fun pins s σ H Q I hq => (pe_callB b2 g1 hm b1 i1 g3 g2 (star_ok i2.1) (plain_ok i2.2)).run pins s σ H Q I (tb_read hq)⟩
        · exact ⟨fun pins s σ H Q I hq => (pe_callTy b2 g1 hm b1 i1 g3 g2 (star_ok i2.1) (plain_ok i2.2)).run pins s σ H Q I (tb_read hq)⟩
theorem cCall_ok (S : CoOk k T N c) (C : Ctx k T N sc X) {x : Str} {es : List Expr} {p pos : Pos} {f : ME} (h : cCall T N c sc x es = some f) : PE X (.Call (.Name x p) es [] pos) (tE X f) := by
  unfold cCall at h
  split at h
  · rename_i hg
    obtain ⟨g1, g2, g3⟩ := C.gl hg
    split at h
    · rename_i F h1
      obtain ⟨fs, h2, h⟩ := bindS h
      cases h
      obtain ⟨f0, fd, ps, m1, m2, m3, m4, m5⟩ := C.tab.fn x F h1
      obtain ⟨i1, i2, i3⟩ := cAs_ok S C h2
      cases es with
      | nil => rw [i3 rfl]; exact zpe_call0 m4 C.room g1 m1 m2 m3 g2
      | cons e es =>
        simp only [List.all_cons, Bool.and_eq_true] at i2
        exact zpe_call m4 C.room g1 m1 m2 m3 i1 g2 (star_ok i2.1) (plain_ok i2.2)
    · split at h
      · rename_i hl
        rw [Bool.or_eq_true, decide_eq_true_eq, decide_eq_true_eq] at hl
        have hT : x = (if decide (x = ("list" : Str)) then ("list" : Str) else "tuple") := by
          rcases hl with e | e <;> (subst e; decide)
        have hm : X.mg x = none := by
          rcases hl with e | e <;> (subst e; exact C.bn)
        split at h
        · rename_i as hr
          unfold rngOf at hr
          split at hr
          · rename_i y p1 es1 pos1
            split at hr
            · rename_i hy
              cases hr
              rw [Bool.and_eq_true, decide_eq_true_eq] at hy
              obtain ⟨e, hy⟩ := hy
              subst e
              obtain ⟨q1, q2, q3⟩ := C.gl hy
              unfold cRg at h
              split at h
              · split at h
                · rename_i hs
                  obtain ⟨f1, h1, h⟩ := bindS h
                  cases h
                  exact zpe_rg1 hT C.calm g1 hm q1 C.bn (S.e C h1) (star_ok hs)
                · cases h
              · split at h
                · rename_i hs
                  rw [Bool.and_eq_true] at hs
                  obtain ⟨f1, h1, h⟩ := bindS h
                  obtain ⟨f2, h2, h⟩ := bindS h
                  cases h
                  exact zpe_rg2 hT C.calm g1 hm q1 C.bn (S.e C h1) (S.e C h2) (star_ok hs.1) (star_ok hs.2) (plain_ok (by simp [hs.2]))
                · cases h
              · cases h
            · cases hr
          · cases hr
        · exact cBlt_ok S C hg h
      · exact cBlt_ok S C hg h
  · cases h
theorem cMet2_ok (S : CoOk k T N c) (C : Ctx k T N sc X) {o : Expr} {m : Str} {es : List Expr} {apos pos : Pos} {f : ME} (hl : (apos.endLine == pos.line) = true) (h : cMet2 N c sc o m es = some f) : PE X (.Call (.Attribute o m apos) es [] pos) (tE X f) := by
  unfold cMet2 at h
  split at h
  · rename_i ho
    have hb : attributeBase o m X.env (eval o X.env) = eval o X.env := by
      cases o <;> first
        | rfl
        | cases ho
    obtain ⟨g, h1, h⟩ := bindS h
    obtain ⟨fo, h2, h⟩ := bindS h
    split at h
    · cases h
      exact zpe_mt0 (methB_ok (Ctx.hu0 C) h1) (cO_ok S C h2) hb hl
    · split at h
      · rename_i hs
        obtain ⟨fs, h3, h⟩ := bindS h
        cases h
        exact zpe_mt (methB_ok (Ctx.hu0 C) h1) (cO_ok S C h2) (cOs_ok S C h3).1 hb (by rw [star_ok hs]; rfl) hl (star_ok hs) rfl
      · cases h
    · cases h
  · cases h
theorem cMeth_ok (S : CoOk k T N c) (C : Ctx k T N sc X) {o : Expr} {m : Str} {es : List Expr} {apos pos : Pos} {f : ME} (h : cMeth N c sc o m es apos pos = some f) : PE X (.Call (.Attribute o m apos) es [] pos) (tE X f) := by
  unfold cMeth at h
  split at h
  · rename_i hl
    split at h
    · rename_i i hi
      have hv := isNm_var C hi
      have hb : ∀ m : Str, attributeBase o m X.env (eval o X.env) = eval o X.env := by
        obtain ⟨x, h1, h2⟩ := bindS hi
        intro m
        cases o <;> first
          | rfl
          | cases h1
      split at h
      · rename_i e
        rw [decide_eq_true_eq] at e
        subst e
        split at h
        · split at h
          · rename_i hs
            obtain ⟨g, h1, h⟩ := bindS h
            cases h
            exact zpe_app hv (S.e C h1) (hb _) (by rw [star_ok hs]; rfl) hl (star_ok hs) rfl
          · cases h
        · cases h
      · split at h
        · rename_i e
          rw [decide_eq_true_eq] at e
          subst e
          split at h
          · cases h
            exact zpe_pop hv (hb _) hl
          · split at h
            · rename_i hs
              obtain ⟨g, h1, h⟩ := bindS h
              cases h
              exact zpe_popAt hv (S.e C h1) (hb _) (by rw [star_ok hs]; rfl) hl (star_ok hs) rfl
            · cases h
          · cases h
        · split at h
          · rename_i e
            rw [decide_eq_true_eq] at e
            subst e
            split at h
            · split at h
              · rename_i hs
                obtain ⟨g, h1, h⟩ := bindS h
                cases h
                exact zpe_get1 (Ctx.hu0 C) hv (S.e C h1) ⟨hb _, by rw [star_ok hs]; rfl, hl, by rw [star_ok hs]; rfl⟩
              · cases h
            · split at h
              · rename_i hs
                rw [Bool.and_eq_true] at hs
                obtain ⟨g, h1, h⟩ := bindS h
                obtain ⟨g2, h2, h⟩ := bindS h
                cases h
                exact zpe_get2 (Ctx.hu0 C) hv (S.e C h1) (S.e C h2) ⟨hb _, by rw [star_ok hs.1, star_ok hs.2]; rfl, hl, by rw [star_ok hs.1, star_ok hs.2]; rfl⟩
              · cases h
            · cases h
          · exact cMet2_ok S C hl h
    · exact cMet2_ok S C hl h
  · cases h
end
end Z
namespace Z
open PySem PySem.Spec L2
open PyProof.Rows hiding St
section
variable {k : Nat} {T : Tab} {N : List Str} {sc : Scope} {X : Cx} {c : Co}
theorem Ctx.hu (C : Ctx k T N sc X) : X.A.units + 66 < cLine := by have := C.room.un; omega
theorem last_ok {op op' : CmpOp} {a b : Expr} (h : notSet b = true) : lastMarks [op, op'] [a, b] = false := by
  show behindInMarks op' b = false
  exact set_ok h
theorem cE_ok (S : CoOk k T N c) (C : Ctx k T N sc X) {e : Expr} {f : ME} (h : cE T N c sc e = some f) : PE X e (tE X f) := by
  unfold cE at h
  split at h
  · obtain ⟨d, h1, h⟩ := bindS h
    cases h
    exact cC_ok h1
  · split at h
    · rename_i i hi
      cases h
      exact zpe_var (C.var hi)
    · split at h
      · rename_i hg
        obtain ⟨g1, g2, g3⟩ := C.gl hg
        obtain ⟨d, h1, h⟩ := bindS h
        cases h
        obtain ⟨v, u, m1, m2, m3⟩ := C.tab.con _ d h1
        exact zpe_const (pe_glob g1 m1 m2 g2) m3
      · cases h
  · obtain ⟨g, h1, h⟩ := bindS h
    obtain ⟨fa, h2, h⟩ := bindS h
    obtain ⟨fb, h3, h⟩ := bindS h
    cases h
    exact zpe_bin (opB_ok h1) (cO_ok S C h2) (cO_ok S C h3)
  · obtain ⟨f1, h1, h⟩ := bindS h
    cases h
    exact zpe_not (S.e C h1)
  · obtain ⟨f1, h1, h⟩ := bindS h
    cases h
    exact zpe_un ud_neg (cO_ok S C h1)
  · exact pe_one (S.e C h)
  · obtain ⟨f1, h1, h⟩ := bindS h
    obtain ⟨f2, h2, h⟩ := bindS h
    cases h
    exact zpe_and (S.e C h1) (S.e C h2)
  · obtain ⟨f1, h1, h⟩ := bindS h
    obtain ⟨f2, h2, h⟩ := bindS h
    cases h
    exact zpe_or (S.e C h1) (S.e C h2)
  · obtain ⟨ft, h1, h⟩ := bindS h
    obtain ⟨fa, h2, h⟩ := bindS h
    obtain ⟨fb, h3, h⟩ := bindS h
    cases h
    exact zpe_if (S.b C h1) (S.e C h2) (S.e C h3)
  · split at h
    · rename_i hs
      obtain ⟨g, h1, h⟩ := bindS h
      obtain ⟨fa, h2, h⟩ := bindS h
      obtain ⟨fb, h3, h⟩ := bindS h
      cases h
      exact zpe_cmp (cmpB_ok C.hu h1) (cO_ok S C h2) (cO_ok S C h3) (set_ok hs)
    · cases h
  · split at h
    · rename_i hs
      obtain ⟨g, h1, h⟩ := bindS h
      obtain ⟨g', h2, h⟩ := bindS h
      obtain ⟨fa, h3, h⟩ := bindS h
      obtain ⟨fb, h4, h⟩ := bindS h
      obtain ⟨fd, h5, h⟩ := bindS h
      cases h
      exact zpe_chain (cmpB_ok C.hu h1) (cmpB_ok C.hu h2) (cO_ok S C h3) (cO_ok S C h4) (cO_ok S C h5) (last_ok hs)
    · cases h
  · obtain ⟨fa, h1, h⟩ := bindS h
    obtain ⟨fl, h2, h⟩ := bindS h
    obtain ⟨fh, h3, h⟩ := bindS h
    cases h
    exact zpe_slice (cO_ok S C h1) (cPart_ok S C h2) (cPart_ok S C h3)
  · obtain ⟨fa, h1, h⟩ := bindS h
    cases h
    exact zpe_rev (cO_ok S C h1)
  · obtain ⟨kvs, h1, h⟩ := bindS h
    split at h
    · rename_i hl
      cases h
      exact zpe_dic h1 (of_decide_eq_true hl)
    · cases h
  · split at h
    · rename_i hs
      obtain ⟨fa, h1, h⟩ := bindS h
      obtain ⟨fb, h2, h⟩ := bindS h
      cases h
      exact zpe_ix C.hu (cO_ok S C h1) (cO_ok S C h2) (slice_ok hs)
    · cases h
  · obtain ⟨fs, h1, h⟩ := bindS h
    cases h
    exact zpe_tup (cTs_ok S C h1).1
  · obtain ⟨fs, h1, h⟩ := bindS h
    cases h
    exact zpe_lst (cTs_ok S C h1).1
  · exact cLcA_ok S C h
  · exact cCall_ok S C h
  · exact cCallK_ok S C h
  · exact cMeth_ok S C h
  · cases h
theorem cB_ok (S : CoOk k T N c) (C : Ctx k T N sc X) {e : Expr} {f : MB} (h : cB N c sc e = some f) : PT X e (tT X f) ∧ ∀ op es pos, e = .BoolOp op es pos → PW X e (tT X f) := by
  unfold cB at h
  split at h
  · obtain ⟨f1, h1, h⟩ := bindS h
    cases h
    exact ⟨zpt_not (S.b C h1), fun _ _ _ e => by cases e⟩
  · rename_i op a pos
    have q : PW X (.BoolOp op [a] pos) (tT X f) := by
      cases op with
      | And => exact pw_and1 (S.b C h)
      | Or => exact pw_or1 (S.b C h)
    exact ⟨q.pt, fun _ _ _ _ => q⟩
  · obtain ⟨f1, h1, h⟩ := bindS h
    obtain ⟨f2, h2, h⟩ := bindS h
    cases h
    have q := zpw_and (S.b C h1) (S.w C h2)
    exact ⟨q.pt, fun _ _ _ _ => q⟩
  · obtain ⟨f1, h1, h⟩ := bindS h
    obtain ⟨f2, h2, h⟩ := bindS h
    cases h
    have q := zpw_or (S.b C h1) (S.w C h2)
    exact ⟨q.pt, fun _ _ _ _ => q⟩
  · split at h
    · rename_i hs
      obtain ⟨g, h1, h⟩ := bindS h
      obtain ⟨fa, h2, h⟩ := bindS h
      obtain ⟨fb, h3, h⟩ := bindS h
      cases h
      exact ⟨zpt_cmp (cmpB_ok C.hu h1) (cO_ok S C h2) (cO_ok S C h3) (set_ok hs), fun _ _ _ e => by cases e⟩
    · cases h
  · split at h
    · rename_i hs
      obtain ⟨g, h1, h⟩ := bindS h
      obtain ⟨g', h2, h⟩ := bindS h
      obtain ⟨fa, h3, h⟩ := bindS h
      obtain ⟨fb, h4, h⟩ := bindS h
      obtain ⟨fd, h5, h⟩ := bindS h
      cases h
      exact ⟨zpt_chain (cmpB_ok C.hu h1) (cmpB_ok C.hu h2) (cO_ok S C h3) (cO_ok S C h4) (cO_ok S C h5) (last_ok hs), fun _ _ _ e => by cases e⟩
    · cases h
  · obtain ⟨ft, h1, h⟩ := bindS h
    obtain ⟨fa, h2, h⟩ := bindS h
    obtain ⟨fb, h3, h⟩ := bindS h
    cases h
    exact ⟨zpt_if (S.b C h1) (S.b C h2) (S.b C h3), fun _ _ _ e => by cases e⟩
  · split at h
    · rename_i hs
      obtain ⟨fa, h1, h⟩ := bindS h
      cases h
      exact ⟨zpt_tru (cO_ok S C h1) (test_ok hs), fun _ _ _ e => by subst e; cases hs⟩
    · cases h
theorem co_ok : ∀ n : Nat, CoOk k T N (co T N n)
  | 0 => ⟨fun _ h => (nomatch h), fun _ h => (nomatch h), fun _ h => (nomatch h)⟩
  | n + 1 => ⟨fun C h => cE_ok (co_ok n) C h, fun C h => (cB_ok (co_ok n) C h).1, fun C h => (cB_ok (co_ok n) C h).2 _ _ _ rfl⟩
end
end Z
namespace Z
open PySem PySem.Spec L2
open PyProof.Rows hiding St

/-! ## statements -/
def sBk : SS := fun ρ => some (.bk, ρ)
def sCt : SS := fun ρ => some (.ct, ρ)
/-- the names that are stored side by side -/
def swK (kd : Str → Option NameKind) (ts vs : List Expr) : Option (Option (List Str)) :=
  if (!(ts.length == 2 || ts.length == 3) || vs.length != ts.length || false) = true then some none
  else if (vs.any fun | .Starred .. => true | _ => false) = true then some none
  else
    if (((ts.filterMap fun
      | .Name id pos => if kd id == some .local && pos.line == (ts.head?.map (·.pos.line)).getD 0 then some id else none
      | _ => none).length != ts.length) || ((ts.filterMap fun
      | .Name id pos => if kd id == some .local && pos.line == (ts.head?.map (·.pos.line)).getD 0 then some id else none
      | _ => none).eraseDups.length != (ts.filterMap fun
      | .Name id pos => if kd id == some .local && pos.line == (ts.head?.map (·.pos.line)).getD 0 then some id else none
      | _ => none).length)) = true then some none
    else if (vs.all (foldedForSure 8)) = true then some none
    else if (vs.all (constantsAlone 8)) = true then none
    else some (some (ts.filterMap fun
      | .Name id pos => if kd id == some .local && pos.line == (ts.head?.map (·.pos.line)).getD 0 then some id else none
      | _ => none))
def swN (sc : Scope) (ts vs : List Expr) : Option (Option (List Str)) := swK (fun x => sc.names.lookup x) ts vs
theorem swN_ok {sc : Scope} {ts vs : List Expr} {r : Option (List Str)} {env : Env} {kt k2 : Nat} {pt pt2 : Pos} (h : swN sc ts vs = some r) (hs : env.scope = sc) (hk : env.blockKind = .function) :
    swappedStores [.Tuple ts kt pt] (.Tuple vs k2 pt2) env = pure r := by
  have h : swK env.kindOf ts vs = some r := by
    have e : env.kindOf = fun x => sc.names.lookup x := by rw [← hs]; rfl
    rw [e]; exact h
  have e : (env.blockKind != ScopeKind.function) = false := by rw [hk]; rfl
  unfold swappedStores
  simp only [e]
  unfold swK at h
  split at h
  · rename_i h1
    cases h
    rw [if_pos h1]
  · rename_i h1
    rw [if_neg h1]
    split at h
    · rename_i h2
      cases h
      exact if_pos h2
    · rename_i h2
      refine (if_neg h2).trans ?_
      split at h
      · rename_i h3
        cases h
        exact if_pos h3
      · rename_i h3
        refine (if_neg h3).trans ?_
        split at h
        · rename_i h4
          cases h
          exact if_pos h4
        · rename_i h4
          refine (if_neg h4).trans ?_
          split at h
          · cases h
          · rename_i h5
            cases h
            exact if_neg h5
/-- a name's store of a list made by a comprehension swaps -/
def swC (sc : Scope) (t : Str) (p : Pos) (e : Expr) : Bool := match e with
  | .ListComp _ _ s q => decide (sc.names.lookup t = some .local) && p.line == q.line && !(s.names.any fun (n, k) => n == t && (k == .local || k == .cell))
  | _ => false
theorem swC_ok {sc : Scope} {t : Str} {p pos q : Pos} {elt : Expr} {gs : List Comprehension} {s : Scope} {env : Env} (hs : env.scope = sc) (hk : env.blockKind = .function) :
    swapsWith (.ListComp elt gs s q) (some (.Name t p)) pos.line env = pure (swC sc t p (.ListComp elt gs s q)) := by
  subst hs
  have e : (ScopeKind.function == ScopeKind.function) = true := by decide
  have e2 : (env.kindOf t == some NameKind.local) = decide (env.scope.names.lookup t = some .local) := by
    unfold Env.kindOf
    by_cases h : env.scope.names.lookup t = some .local
    · rw [h]; rfl
    · rw [decide_eq_false h]
      cases q : (env.scope.names.lookup t == some NameKind.local) with
      | false => rfl
      | true => exact absurd (by simpa using q) h
  unfold swapsWith swC
  simp only [hk, e, e2, Bool.true_and]
  rfl
section
variable (T : Tab) (N : List Str) (c : Co) (pr : List Nat) (sc : Scope)
def cSs (f : Stmt → Option SS) : List Stmt → Option SS
  | [] => some sNil
  | s :: r => (f s).bind fun a => (cSs f r).bind fun b => some (sSeq a b)
def cRvs (sc : Scope) : List Expr → Option MAs
  | [] => some aNil
  | e :: es => if notStar e then (c.e sc e).bind fun f => (cRvs sc es).bind fun g => some (aRv f g) else none
def locN (x : Str) : Option Nat := if decide (sc.names.lookup x = some .local) then locIx N sc x else none
/-- four names, a list among the values -/
def isLs : Expr → Bool
  | .List _ _ => true
  | _ => false
def isOw : Expr → Bool
  | .List _ _ => true
  | .Dict _ _ _ => true
  | .ListComp _ _ _ _ => true
  | _ => false
def areNm : List Expr → Bool
  | [] => true
  | .Name _ _ :: r => areNm r
  | _ => false
def par4 (ts vs : List Expr) : Bool := (decide (ts.length = 4) && vs.any isLs) || (decide (ts.length < 4) && decide (1 < ts.length) && (decide (ts.length = vs.length) && (areNm ts && vs.any isOw)))
/-- a name's place: local or a cell -/
def locA (x : Str) : Option Nat := if decide (sc.names.lookup x = some .local) || decide (sc.names.lookup x = some .cell) then locIx N sc x else none
/-- a store -/
def cAsg : Expr → Expr → Option SS
  | .Name x p, .ListComp elt gs s q => if swC sc x p (.ListComp elt gs s q) || (decide (sc.names.lookup x = some .local) || decide (sc.names.lookup x = some .cell)) then (locIx N sc x).bind fun i => (if swC sc x p (.ListComp elt gs s q) then cLcA N c sc elt gs s else c.e sc (.ListComp elt gs s q)).bind fun f => some (sSet pr i f) else none
  | .Name x p, e => if notComp e && (decide (sc.names.lookup x = some .local) || decide (sc.names.lookup x = some .cell)) then (locIx N sc x).bind fun i => (c.e sc e).bind fun f => some (sSet pr i f) else none
  | .Tuple ts a p, .Tuple vs b q => (swN sc ts vs).bind fun r => match r with
    | none => if par4 ts vs then (match ts, vs with
      | [.Name x _, .Name y _, .Name z _, .Name w _], [e1, e2, e3, e4] => (locN N sc x).bind fun i => (locN N sc y).bind fun j => (locN N sc z).bind fun l => (locN N sc w).bind fun m => (cRvs c sc [e1, e2, e3, e4]).bind fun f => some (sPar pr [i, j, l, m] f)
      | [.Name x _, .Name y _], [e1, e2] => (locA N sc x).bind fun i => (locA N sc y).bind fun j => (cRvs c sc [e1, e2]).bind fun f => some (sPar pr [i, j] f)
      | [.Name x _, .Name y _, .Name z _], [e1, e2, e3] => (locA N sc x).bind fun i => (locA N sc y).bind fun j => (locA N sc z).bind fun l => (cRvs c sc [e1, e2, e3]).bind fun f => some (sPar pr [i, j, l] f)
      | _, _ => none) else (c.e sc (.Tuple vs b q)).bind fun f => (cG N c pr sc 4 (.Tuple ts a p)).bind fun g => some (sAsg f g.1)
    | some _ => match ts, vs with
      | [.Name x _, .Name y _], [e1, e2] => (locN N sc x).bind fun i => (locN N sc y).bind fun j => if decide (i ≠ j) then (cRvs c sc [e1, e2]).bind fun f => some (sPar pr [i, j] f) else none
      | [.Name x _, .Name y _, .Name z _], [e1, e2, e3] => (locN N sc x).bind fun i => (locN N sc y).bind fun j => (locN N sc z).bind fun l => if decide (i ≠ j) && decide (i ≠ l) && decide (j ≠ l) then (cRvs c sc [e1, e2, e3]).bind fun f => some (sPar pr [i, j, l] f) else none
      | _, _ => none
  | .Tuple ts a p, e => if notComp e then (c.e sc e).bind fun f => (cG N c pr sc 4 (.Tuple ts a p)).bind fun g => some (sAsg f g.1) else none
  | .Subscript o i p, e => (c.e sc e).bind fun f => (cG N c pr sc 4 (.Subscript o i p)).bind fun g => some (sAsg f g.1)
  | _, _ => none
def cS (fuel : Nat) : Nat → Stmt → Option SS
  | 0, _ => none
  | n + 1, st => match st with
    | .Expr e _ => if notComp e then (c.e sc e).bind fun f => some (sDrop f) else none
    | .Pass _ => some sNil
    | .Break _ => some sBk
    | .Continue _ => some sCt
    | .Raise _ _ _ => some sBad
    | .Return none _ => some sRetN
    | .Return (some e) _ => match (isNm e).bind (locIx N sc) with
      | some i => some (sRetV pr i)
      | none => (c.e sc e).bind fun f => some (sRet f)
    | .If t as bs _ => (c.b sc t).bind fun ft => (cSs (cS fuel n) as).bind fun fa => (cSs (cS fuel n) bs).bind fun fb => some (sIf ft fa fb)
    | .While t as [] _ => (c.b sc t).bind fun ft => (cSs (cS fuel n) as).bind fun fa => some (whileN ft fa fuel)
    | .For tg it as [] _ => if notSet it then (cI c sc tg it).bind fun fi => (cG N c pr sc 4 tg).bind fun g => (cSs (cS fuel n) as).bind fun fa => some (sFor fi g.1 fa) else none
    | .Assign [tg] e _ => cAsg N c pr sc tg e
    | _ => none
end
section
variable {k : Nat} {T : Tab} {N : List Str} {sc : Scope} {X : Cx} {c : Co} {pr : List Nat} {pos : Pos}
theorem zs_bk : PS X (.Break pos) (tS X pr sBk) := by
  refine ⟨fun pins s σ H Dd I hq => ps_break.run pins s σ H Dd I ?_⟩
  obtain ⟨c, E, ρ, out, ρ', hK, hp, hR, hf, q⟩ := hq
  cases hf
  exact q σ H ⟨Stp.rfl, hR⟩
theorem zs_ct : PS X (.Continue pos) (tS X pr sCt) := by
  refine ⟨fun pins s σ H Dd I hq => ps_continue.run pins s σ H Dd I ?_⟩
  obtain ⟨c, E, ρ, out, ρ', hK, hp, hR, hf, q⟩ := hq
  cases hf
  exact q σ H ⟨Stp.rfl, hR⟩
end
end Z
namespace Z
open PySem PySem.Spec L2
open PyProof.Rows hiding St
section
variable {k : Nat} {T : Tab} {N : List Str} {sc : Scope} {X : Cx} {c : Co} {pr : List Nat} {pos : Pos}
structure CtS (k : Nat) (T : Tab) (N : List Str) (sc : Scope) (X : Cx) : Prop extends Ctx k T N sc X where
  hsc : X.env.scope = sc
  hbk : X.env.blockKind = .function
theorem cSs_ok {F : Stmt → Option SS} (ih : ∀ {st : Stmt} {s : SS}, F st = some s → PS X st (tS X pr s)) : ∀ {sts : List Stmt} {s : SS}, cSs F sts = some s → PSs X sts (tS X pr s)
  | [], s, h => by cases h; exact zs_nil
  | st :: sts, s, h => by
    obtain ⟨a, h1, h⟩ := bindS h
    obtain ⟨b, h2, h⟩ := bindS h
    cases h
    exact zs_cons (ih h1) (cSs_ok ih h2)
theorem cRvs_ok (S : CoOk k T N c) (C : Ctx k T N sc X) : ∀ {es : List Expr} {f : MAs}, cRvs c sc es = some f → PA X es (tAs X f)
  | [], f, h => by cases h; exact za_nil
  | e :: es, f, h => by
    unfold cRvs at h
    split at h
    · rename_i hs
      obtain ⟨g, h1, h⟩ := bindS h
      obtain ⟨g2, h2, h⟩ := bindS h
      cases h
      exact za_rv (S.e C h1) (cRvs_ok S C h2) (star_ok hs)
    · cases h
theorem locN_ok (C : Ctx k T N sc X) {x : Str} {i : Nat} (h : locN N sc x = some i) : X.N[i]? = some x ∧ X.env.scope.names.lookup x = some .local := by
  unfold locN at h
  split at h
  · rename_i e
    rw [decide_eq_true_eq] at e
    exact ⟨by rw [C.hN]; exact locIx_ix h, (C.fit x _ e).1 (by decide)⟩
  · cases h
theorem Ctx.hnd (C : Ctx k T N sc X) : X.N.Nodup := by rw [C.hN]; exact C.nd
theorem swap_sub {e o i : Expr} {p : Pos} {l : Nat} {env : Env} : swapsWith e (some (.Subscript o i p)) l env = pure false := by
  cases e <;> rfl
theorem asgG {tg e : Expr} {f : ME} {g : SG} {tv : List Nat} (he : PE X e (tE X f)) (hg : PG X tg (tG X pr tv g)) (hn : notComp e = true) (hs : notStar tg = true) (hw : swappedStores [tg] e X.env = pure none) : PS X (.Assign [tg] e pos) (tS X pr (sAsg f g)) :=
  zs_asg he hg (swap_ok hn) hw (eachG_cons (es := []) hs)
theorem swK_names {ts vs : List Expr} {ns : List Str} (h : swN sc ts vs = some (some ns)) : ts.length ≤ 8 → ns.length = ts.length ∧ ns = ts.filterMap fun
      | .Name id pos => if sc.names.lookup id == some .local && pos.line == (ts.head?.map (·.pos.line)).getD 0 then some id else none
      | _ => none := by
  intro _
  unfold swN swK at h
  repeat' split at h
  all_goals first
    | (cases h; done)
    | (rename_i h3 _ _
       cases h
       rw [Bool.or_eq_true, not_or] at h3
       have q := h3.1
       rw [Bool.not_eq_true, bne_eq_false_iff_eq] at q
       exact ⟨q, rfl⟩)
theorem swN2 {x y : Str} {px py : Pos} {ns : List Str} {b : Str → Pos → Bool} (h : ns.length = [Expr.Name x px, Expr.Name y py].length) (e : ns = [Expr.Name x px, Expr.Name y py].filterMap fun
      | .Name id pos => if b id pos then some id else none
      | _ => none) : ns = [x, y] := by
  simp only [List.filterMap_cons, List.filterMap_nil] at e
  cases h1 : b x px <;> cases h2 : b y py <;> simp only [h1, h2, if_true, Bool.false_eq_true, if_false] at e <;> subst e <;> first
    | rfl
    | (simp at h)
theorem swN3 {x y z : Str} {px py pz : Pos} {ns : List Str} {b : Str → Pos → Bool} (h : ns.length = [Expr.Name x px, Expr.Name y py, Expr.Name z pz].length) (e : ns = [Expr.Name x px, Expr.Name y py, Expr.Name z pz].filterMap fun
      | .Name id pos => if b id pos then some id else none
      | _ => none) : ns = [x, y, z] := by
  simp only [List.filterMap_cons, List.filterMap_nil] at e
  cases h1 : b x px <;> cases h2 : b y py <;> cases h3 : b z pz <;> simp only [h1, h2, h3, if_true, Bool.false_eq_true, if_false] at e <;> subst e <;> first
    | rfl
    | (simp at h)
theorem locA_ok (C : CtS k T N sc X) {x : Str} {i : Nat} {p : Pos} (h : locA N sc x = some i) : PG X (.Name x p) (L2.gName i) := by
  unfold locA at h
  split at h
  · rename_i hk
    rw [Bool.or_eq_true, decide_eq_true_eq, decide_eq_true_eq] at hk
    exact C.toCtx.name h hk
  · cases h
theorem cAsg_ok (S : CoOk k T N c) (C : CtS k T N sc X) {tg e : Expr} {s : SS} (h : cAsg N c pr sc tg e = some s) : PS X (.Assign [tg] e pos) (tS X pr s) := by
  have nk : ∀ {x : Str} {i : Nat}, locIx N sc x = some i → (decide (sc.names.lookup x = some .local) || decide (sc.names.lookup x = some .cell)) = true → Loc X.env.scope x ∧ (X.fn x = true ∨ X.env.scope.names.lookup x = some .local) := fun {x i} hi hk => by
    rw [Bool.or_eq_true, decide_eq_true_eq, decide_eq_true_eq] at hk
    rcases hk with e | e
    · have q := (C.fit x _ e).1 (by decide)
      exact ⟨.inl q, .inr q⟩
    · exact ⟨.inr ((C.fit x _ e).1 (by decide)), .inl (C.fnc x e)⟩
  unfold cAsg at h
  split at h
  · rename_i x p elt gs s1 q
    split at h
    · rename_i hk
      obtain ⟨i, h1, h⟩ := bindS h
      obtain ⟨f, h2, h⟩ := bindS h
      cases h
      have hi : X.N[i]? = some x := by rw [C.hN]; exact locIx_ix h1
      have sw := swC_ok (sc := sc) (t := x) (p := p) (pos := pos) (q := q) (elt := elt) (gs := gs) (s := s1) C.hsc C.hbk
      cases hc : swC sc x p (.ListComp elt gs s1 q) with
      | true =>
        rw [hc] at sw
        rw [if_pos hc] at h2
        have lo : sc.names.lookup x = some .local := by
          have hc2 := hc
          unfold swC at hc2
          simp only [Bool.and_eq_true, decide_eq_true_eq] at hc2
          exact hc2.1.1
        unfold cLcA at h2
        split at h2
        · obtain ⟨tg, iter, ifs, tg1, iter1, ifs1, own, fi, g, tv, fi1, g1, vs1, t, t1, fe, eg, rfl, b1, b2, b3, b4, b5, b6, b7, b8, b9, b10, b11, b12⟩ := cLc2_get h2
          cases eg
          exact zs_setLc2 C.calm C.hnd hi ((C.fit x _ lo).1 (by decide)) sw (cI_ok S C.toCtx b4) (blkC_fit C.toCtx b1) b9 (fun s H A cl fp => cG_ok S (C.toCtx.blk s H A cl fp) 4 b5) (fun s H A cl fp => cTests_ok S (C.toCtx.blk s H A cl fp) b10) (fun s H A cl fp => cI_ok S (C.toCtx.blk s H A cl fp) b6)
            (fun s H A cl fp => cG_ok S (C.toCtx.blk s H A cl fp) 4 b7) (fun s H A cl fp => cTests_ok S (C.toCtx.blk s H A cl fp) b11) (fun s H A cl fp => S.e (C.toCtx.blk s H A cl fp) b12) (fold_ok b2) (fun env => fold_ok b3) b8
        · obtain ⟨tg, iter, ifs, own, fi, g, tv, t, fe, eg, rfl, g1, g2, g3, g4, g5, g6, g7⟩ := cLc_get h2
          cases eg
          exact zs_setLc C.calm C.hnd hi ((C.fit x _ lo).1 (by decide)) sw (cI_ok S C.toCtx g3) (blkC_fit C.toCtx g1) (fun s H A cl fp => cG_ok S (C.toCtx.blk s H A cl fp) 4 g4) (fun s H A cl fp => cTests_ok S (C.toCtx.blk s H A cl fp) g6) (fun s H A cl fp => S.e (C.toCtx.blk s H A cl fp) g7) (fold_ok g2) g5
      | false =>
        rw [hc] at sw
        rw [if_neg (by rw [hc]; decide)] at h2
        rw [hc, Bool.false_or] at hk
        obtain ⟨l1, l2⟩ := nk h1 hk
        exact zs_set' (ps_set C.hnd hi l1 (S.e C.toCtx h2) sw l2)
    · cases h
  · rename_i x p e hne
    split at h
    · rename_i hk
      rw [Bool.and_eq_true] at hk
      obtain ⟨i, h1, h⟩ := bindS h
      obtain ⟨f, h2, h⟩ := bindS h
      cases h
      obtain ⟨l1, l2⟩ := nk h1 hk.2
      exact zs_set' (ps_set C.hnd (by rw [C.hN]; exact locIx_ix h1) l1 (S.e C.toCtx h2) (swap_ok hk.1) l2)
    · cases h
  · rename_i ts a p vs b q
    obtain ⟨r, h1, h⟩ := bindS h
    have hw := swN_ok (kt := a) (k2 := b) (pt := p) (pt2 := q) h1 C.hsc C.hbk
    cases r with
    | none =>
     dsimp only at h
     split at h
     · split at h
       · rename_i x px y py z pz w pw e1 e2 e3 e4
         obtain ⟨i, g1, h⟩ := bindS h
         obtain ⟨j, g2, h⟩ := bindS h
         obtain ⟨l, g3, h⟩ := bindS h
         obtain ⟨m, g4, h⟩ := bindS h
         obtain ⟨f, g5, h⟩ := bindS h
         cases h
         obtain ⟨a1, a2⟩ := locN_ok C.toCtx g1
         obtain ⟨b1, b2⟩ := locN_ok C.toCtx g2
         obtain ⟨c1, c2⟩ := locN_ok C.toCtx g3
         obtain ⟨d1, d2⟩ := locN_ok C.toCtx g4
         exact zs_par4 C.calm C.hnd a1 b1 c1 d1 a2 b2 c2 d2 (cRvs_ok S C.toCtx g5) hw
       · rename_i x px y py e1 e2
         obtain ⟨i, g1, h⟩ := bindS h
         obtain ⟨j, g2, h⟩ := bindS h
         obtain ⟨f, g3, h⟩ := bindS h
         cases h
         exact zs_par2t C.calm (locA_ok C g1) (locA_ok C g2) (cRvs_ok S C.toCtx g3) hw
       · rename_i x px y py z pz e1 e2 e3
         obtain ⟨i, g1, h⟩ := bindS h
         obtain ⟨j, g2, h⟩ := bindS h
         obtain ⟨l, g3, h⟩ := bindS h
         obtain ⟨f, g4, h⟩ := bindS h
         cases h
         exact zs_par3t C.calm (locA_ok C g1) (locA_ok C g2) (locA_ok C g3) (cRvs_ok S C.toCtx g4) hw
       · cases h
     · obtain ⟨f, h2, h⟩ := bindS h
       obtain ⟨⟨g, tv⟩, h3, h⟩ := bindS h
       cases h
       exact asgG (S.e C.toCtx h2) (cG_ok S C.toCtx 4 h3) rfl rfl hw
    | some ns =>
      dsimp only at h
      split at h
      · rename_i x px y py e1 e2
        obtain ⟨i, g1, h⟩ := bindS h
        obtain ⟨j, g2, h⟩ := bindS h
        split at h
        · rename_i hd
          obtain ⟨f, g3, h⟩ := bindS h
          cases h
          obtain ⟨a1, a2⟩ := locN_ok C.toCtx g1
          obtain ⟨b1, b2⟩ := locN_ok C.toCtx g2
          refine zs_par C.calm C.hnd a1 b1 (of_decide_eq_true hd) a2 b2 (cRvs_ok S C.toCtx g3) ?_
          rw [hw]
          obtain ⟨e1, e2⟩ := swK_names h1 (by simp)
          rw [swN2 e1 e2]
        · cases h
      · rename_i x px y py z pz e1 e2 e3
        obtain ⟨i, g1, h⟩ := bindS h
        obtain ⟨j, g2, h⟩ := bindS h
        obtain ⟨l, g3, h⟩ := bindS h
        split at h
        · rename_i hd
          simp only [Bool.and_eq_true, decide_eq_true_eq] at hd
          obtain ⟨f, g4, h⟩ := bindS h
          cases h
          obtain ⟨a1, a2⟩ := locN_ok C.toCtx g1
          obtain ⟨b1, b2⟩ := locN_ok C.toCtx g2
          obtain ⟨c1, c2⟩ := locN_ok C.toCtx g3
          refine zs_par3 C.calm C.hnd a1 b1 c1 hd.1.1 hd.1.2 hd.2 a2 b2 c2 (cRvs_ok S C.toCtx g4) ?_
          rw [hw]
          obtain ⟨e1, e2⟩ := swK_names h1 (by simp)
          rw [swN3 e1 e2]
        · cases h
      · cases h
  · rename_i x1 x2 ts a p hne
    split at h
    · rename_i hn
      obtain ⟨f, h2, h⟩ := bindS h
      obtain ⟨⟨g, tv⟩, h3, h⟩ := bindS h
      cases h
      refine asgG (S.e C.toCtx h2) (cG_ok S C.toCtx 4 h3) hn rfl ?_
      cases e <;> first
        | rfl
        | exact (hne _ _ _ rfl).elim
    · cases h
  · rename_i o i p
    obtain ⟨f, h2, h⟩ := bindS h
    obtain ⟨⟨g, tv⟩, h3, h⟩ := bindS h
    cases h
    refine zs_asg (S.e C.toCtx h2) (cG_ok S C.toCtx 4 h3) (by cases e <;> rfl) ?_ (eachG_cons (es := []) rfl)
    cases e <;> rfl
  · cases h
theorem cS_ok (S : CoOk k T N c) (C : CtS k T N sc X) {fuel : Nat} : ∀ (n : Nat) {st : Stmt} {s : SS}, cS N c pr sc fuel n st = some s → PS X st (tS X pr s) := by
  intro n
  induction n with
  | zero => intro st s h; cases h
  | succ n ih =>
    intro st s h
    unfold cS at h
    split at h
    · split at h
      · rename_i hn
        obtain ⟨f, h1, h⟩ := bindS h
        cases h
        exact zs_drop (S.e C.toCtx h1) (swap_ok hn)
      · cases h
    · cases h; exact zs_pass
    · cases h; exact zs_bk
    · cases h; exact zs_ct
    · cases h; exact zs_bad
    · cases h; exact zs_retN
    · split at h
      · rename_i i hi
        cases h
        exact zs_retV (isNm_var C.toCtx hi)
      · obtain ⟨f, h1, h⟩ := bindS h
        cases h
        exact zs_ret (S.e C.toCtx h1)
    · obtain ⟨ft, h1, h⟩ := bindS h
      obtain ⟨fa, h2, h⟩ := bindS h
      obtain ⟨fb, h3, h⟩ := bindS h
      cases h
      exact zs_if (S.b C.toCtx h1) (cSs_ok (fun h => ih h) h2) (cSs_ok (fun h => ih h) h3)
    · obtain ⟨ft, h1, h⟩ := bindS h
      obtain ⟨fa, h2, h⟩ := bindS h
      cases h
      exact zs_while C.pass (S.b C.toCtx h1) (cSs_ok (fun h => ih h) h2)
    · split at h
      · rename_i hn
        obtain ⟨fi, h1, h⟩ := bindS h
        obtain ⟨⟨g, tv⟩, h2, h⟩ := bindS h
        obtain ⟨fa, h3, h⟩ := bindS h
        cases h
        exact zs_for C.pass C.calm (cI_ok S C.toCtx h1) (cG_ok S C.toCtx 4 h2) (cSs_ok (fun h => ih h) h3) (fold_ok hn)
      · cases h
    · exact cAsg_ok S C h
    · cases h
end
end Z
namespace Z
open PySem PySem.Spec L2
open PyProof.Rows hiding St

/-! ## tables, defs, the law's end -/
def Tab.nil : Tab := ⟨fun _ => none, fun _ => none, fun _ _ _ => none⟩
def Tab.add (T : Tab) (x : Str) (F : FnS) (kw : Nat → List Str → Option (List Nat)) : Tab := ⟨fun y => if y = x then some F else T.fn y, T.con, fun y n ks => if y = x then kw n ks else T.kw y n ks⟩
def Tab.put (T : Tab) (x : Str) (d : D) : Tab := ⟨T.fn, fun y => if y = x then some d else T.con y, T.kw⟩
def noKw : Nat → List Str → Option (List Nat) := fun _ _ => none
section
variable {k : Nat} {T : Tab} {P : Program} {w : World} {K : PySem.W.Frag} {mg : Str → Option Value} {base : Heap}
theorem TabOk.nil (h : ∀ x ∈ bltNames, mg x = none) : TabOk k .nil P w K mg base := ⟨fun _ _ h => (nomatch h), fun _ _ h => (nomatch h), h⟩
theorem TabOk.mono {j : Nat} (t : TabOk k T P w K mg base) (h : k ≤ j) : TabOk j T P w K mg base :=
  ⟨fun x F e => let ⟨f, fd, ps, h1, h2, h3, h4, h5⟩ := t.fn x F e; ⟨f, fd, ps, h1, h2, h3, h4.mono h, h5⟩, t.con, t.blt⟩
theorem TabOk.add (t : TabOk k T P w K mg base) {x : Str} {F : FnS} {kw : Nat → List Str → Option (List Nat)} {f : Addr} {fd : FuncData} {ps : List Str} (hm : mg x = some (.ref f)) (hk : PySem.W.keepIn K (.ref f) = true) (hb : Binds K fd ps []) (hF : FnOk P w K mg base CX0 k f fd ps (spF K F))
    (hw : ∀ n ks pm, kw n ks = some pm → KwOk K fd ps ks n pm) : TabOk k (T.add x F kw) P w K mg base := by
  refine ⟨fun y G e => ?_, t.con, t.blt⟩
  have e : (if y = x then some F else T.fn y) = some G := e
  split at e
  · rename_i q
    cases e
    subst q
    refine ⟨f, fd, ps, hm, hk, hb, hF, fun n ks pm q => hw n ks pm ?_⟩
    have q : (if y = y then kw n ks else T.kw y n ks) = some pm := q
    rw [if_pos rfl] at q
    exact q
  · rename_i q
    obtain ⟨f', fd', ps', h1, h2, h3, h4, h5⟩ := t.fn y G e
    refine ⟨f', fd', ps', h1, h2, h3, h4, fun n ks pm q' => h5 n ks pm ?_⟩
    have q' : (if y = x then kw n ks else T.kw y n ks) = some pm := q'
    rw [if_neg q] at q'
    exact q'
theorem TabOk.put (t : TabOk k T P w K mg base) {x : Str} {d : D} {v : V} {u : Value} (hm : mg x = some u) (r : RelV v u) (hr : ∀ H O, Rep K H O d v) : TabOk k (T.put x d) P w K mg base := by
  refine ⟨t.fn, fun y e h => ?_, t.blt⟩
  have h : (if y = x then some d else T.con y) = some e := h
  split at h
  · rename_i q
    cases h
    subst q
    exact ⟨v, u, hm, r, hr⟩
  · exact t.con y e h
theorem TabOk.putI (t : TabOk k T P w K mg base) {x : Str} {i : Int} (h : ∃ tk, mg x = some (.int i tk)) : TabOk k (T.put x (.int i)) P w K mg base := by
  obtain ⟨tk, h⟩ := h
  exact t.put (v := .int i) h ⟨tk, rfl⟩ fun _ _ => .int i
theorem TabOk.putS (t : TabOk k T P w K mg base) {x : Str} {z : Str} (h : ∃ tk, mg x = some (.str z tk)) (hz : PyData.strOk z = true) : TabOk k (T.put x (.str z)) P w K mg base := by
  obtain ⟨tk, h⟩ := h
  exact t.put (v := .str z) h ⟨tk, rfl⟩ fun _ _ => .str z hz
theorem def_ok {x qual : Str} {st : Stmt} {f : Addr} {fd : FuncData} {N ps : List Str} {mask : List Bool} {body : SS} {m n fuel : Nat} (t : TabOk k T P w K mg base) (F : Fun K x qual st f fd) (S : FnScope N ps (defScope st)) (hm : mask.length = ps.length) (hN : ps.length ≤ N.length)
    (hc : cSs (cS N (co T N m) (prOf 0 mask) (defScope st) fuel n) (defBody st) = some body) : FnOk P w K mg base CX0 (k + 1) f fd ps (spF K ⟨mask, runF N.length mask body⟩) := by
  refine zfn F S hm hN fun cdv A outer s H E hr => ?_
  have C : CtS k T N (defScope st) (cxOf CX0 P w K mg base N qual (defScope st) f cdv A outer s H E).nox := by
    refine ⟨⟨rfl, S.nd, rfl, hr, PassesOwn.never, fun x kd h => ⟨fun _ => h, fun e => .inl (e ▸ h)⟩, fun _ _ => rfl, t⟩, rfl, ?_⟩
    show (if (defScope st).kind.isAnnotationScope then ScopeKind.function else (defScope st).kind) = _
    rw [S.kind]; rfl
  exact cSs_ok (fun h => cS_ok (co_ok m) C n h) hc
/-- the law's argument -/
theorem sp_script {F : FnS} {H : Hp} {a : Addr} {ns : List Int} {Q : VK} {E : XK} (hm : F.mask = [false]) (hr : F.run [.list (ns.map .int)] = some (.v (.bool true), [])) (hS : SqL K H a (ns.map V.int)) (hQ : ∀ H', Q (.bl true) H') : spF K F [.ref a] H Q E := by
  have la : LA K H (fun _ => False) a (ns.map V.int) := by
    rcases hS with h | h
    · exact .inl ⟨h, fun y => y⟩
    · exact .inr (.inr h)
  have rs : Reps K H (fun _ => False) (ns.map .int) (ns.map V.int) := by
    clear hr hS la
    induction ns with
    | nil => exact .nil
    | cons n ns ih => exact .cons (.int n) ih
  refine ⟨fun _ => False, [.list (ns.map .int)], [], .v (.bool true), [], by rw [hm]; rfl, hr, (fun b h => h.elim), by rw [hm]; exact ⟨.lst la rs, True.intro⟩, List.nodup_nil, (fun a h => by cases h), fun z H' p => ?_⟩
  obtain ⟨_, _, p, _⟩ := p
  cases p
  exact hQ H'
theorem fun_of {x qual : Str} {st : Stmt} {f : Addr} {fd : FuncData} {kws : List (Str × V)} (F : FunD K x qual (defArgs st) (defBody st) (defScope st) [] kws f fd) : Fun K x qual st f fd := by
  obtain ⟨oc, od, dV, kV, doc, pm, an, cdv, ct, osl, e, l, c, hd, _⟩ := F.ex
  rcases hd with ⟨_, e2⟩ | ⟨e2, _⟩
  · subst e2
    exact ⟨⟨oc, od, kV, doc, pm, an, cdv, ct, osl, e, l, c⟩, F.kp⟩
  · exact absurd rfl e2
end
end Z
namespace Z
open PySem PySem.Spec L2
open PyProof.Rows hiding St
section
variable {k : Nat} {T : Tab} {P : Program} {w : World} {K : PySem.W.Frag} {mg : Str → Option Value} {base : Heap}
theorem KwOk.of {x qual : Str} {st : Stmt} {f : Addr} {fd : FuncData} {ps ks : List Str} {n : Nat} {pm : List Nat} (F : Fun K x qual st f fd)
    (h : ∀ (kV doc pm' : Value) (an : Option Addr) (cdv ct : Value) (us ws xs : List Value), us.length = n → ws.length = ks.length → permL (us ++ ws) pm = some xs →
      bindArgs (PySem.W.fnOf x qual (defArgs st) (defBody st) (defScope st) .none kV doc pm' an cdv ct) ⟨us, ks.zip ws⟩ = pure (ps.zip xs)) : KwOk K fd ps ks n pm := by
  obtain ⟨oc, od, kV, doc, pm', an, cdv, ct, osl, rfl, lk, hcd⟩ := F.ex
  exact ⟨fun s us ws xs _ h1 h2 _ h4 => .of_eq (h kV doc pm' an cdv ct us ws xs h1 h4 h2)⟩
theorem sp_none {mask : List Bool} {vs : List V} {H : Hp} {Q : VK} {E : XK} (h : spF K ⟨mask, fun _ => none⟩ vs H Q E) : False := by
  obtain ⟨O, ds, ms, rv, outs, _, h, _⟩ := h
  cases h
theorem fn_none {f : Addr} {fd : FuncData} {ps : List Str} {mask : List Bool} : FnOk P w K mg base CX0 k f fd ps (spF K ⟨mask, fun _ => none⟩) :=
  ⟨fun _ _ _ _ h => (sp_none h).elim, fun _ _ _ _ _ _ _ _ _ _ _ _ _ h => (sp_none h).elim⟩
end
end Z
namespace Z
open PySem PySem.Spec L2
open PyProof.Rows hiding St

/-! ## the evaluator's functions applied: for simp -/
section
variable {ρ : Rho}
@[simp] theorem x_eC (d : D) : eC d ρ = some (.v d, ρ) := rfl
@[simp] theorem x_d1 (d : D) : RV.d (.v d) = d := rfl
@[simp] theorem x_d2 (d : D) : RV.d (.o d) = d := rfl
@[simp] theorem x_eVar (i : Nat) : eVar i ρ = match ρ[i]? with
  | some (some (.v d)) => some (.v d, ρ)
  | some (some (.o d)) => some (.v d, ρ.set i (some (.v d)))
  | _ => none := rfl
@[simp] theorem x_slot (i : Nat) : slot ρ i = match ρ[i]? with
  | some (some r) => some r.d
  | _ => none := rfl
@[simp] theorem x_oSl (i : Nat) : oSl i ρ = (slot ρ i).bind fun _ => some (.sl i, ρ) := rfl
@[simp] theorem x_oTv (f : ME) : oTv f ρ = (f ρ).bind fun r => some (.tv r.1.d, r.2) := rfl
@[simp] theorem x_get1 (d : D) : Op.get ρ (.tv d) = some d := rfl
@[simp] theorem x_get2 (i : Nat) : Op.get ρ (.sl i) = slot ρ i := rfl
@[simp] theorem x_eOp1 (g : D → Option RV) (fa : MO) : eOp1 g fa ρ = (fa ρ).bind fun r => (r.1.get r.2).bind fun x => (g x).bind fun z => some (z, r.2) := rfl
@[simp] theorem x_eOp2 (g : D → D → Option RV) (fa fb : MO) : eOp2 g fa fb ρ = (fa ρ).bind fun r => (fb r.2).bind fun s => (r.1.get s.2).bind fun x => (s.1.get s.2).bind fun y => (g x y).bind fun z => some (z, s.2) := rfl
@[simp] theorem x_osNil : osNil ρ = some ([], ρ) := rfl
@[simp] theorem x_osCons (f : MO) (g : MOs) : osCons f g ρ = (f ρ).bind fun r => (g r.2).bind fun s => some (r.1 :: s.1, s.2) := rfl
@[simp] theorem x_eB (g : List D → Option RV) (fs : MOs) : eB g fs ρ = (fs ρ).bind fun r => (getAll r.2 r.1).bind fun xs => (g xs).bind fun z => some (z, r.2) := rfl
@[simp] theorem x_getAll0 : getAll ρ [] = some [] := rfl
@[simp] theorem x_getAll1 (p : Op) (ps : List Op) : getAll ρ (p :: ps) = match p.get ρ, getAll ρ ps with
    | some d, some ds => some (d :: ds)
    | _, _ => none := rfl
@[simp] theorem x_tvs0 : tvs [] = some [] := rfl
@[simp] theorem x_tvs1 (d : D) (r : List Op) : tvs (.tv d :: r) = (tvs r).bind fun ds => some (d :: ds) := rfl
@[simp] theorem x_eTup (fs : MOs) : eTup fs ρ = (fs ρ).bind fun r => (tvs r.1).bind fun ds => if szb ds.length then some (.v (.tuple ds), r.2) else none := rfl
@[simp] theorem x_eLst (fs : MOs) : eLst fs ρ = (fs ρ).bind fun r => (tvs r.1).bind fun ds => if szb ds.length then some (.o (.list ds), r.2) else none := rfl
@[simp] theorem x_bTru (fo : MO) : bTru fo ρ = (fo ρ).bind fun r => (r.1.get r.2).bind fun x => (truD x).bind fun b => some (b, r.2) := rfl
@[simp] theorem x_asB (b : Bool) : asB (.v (.bool b)) = some b := rfl
@[simp] theorem x_asI (i : Int) : asI (.v (.int i)) = some i := rfl
@[simp] theorem x_bOp2 (g : D → D → Option RV) (fa fb : MO) : bOp2 g fa fb ρ = (eOp2 g fa fb ρ).bind fun r => (asB r.1).bind fun b => some (b, r.2) := rfl
@[simp] theorem x_bNot (f : MB) : bNot f ρ = (f ρ).bind fun r => some (!r.1, r.2) := rfl
@[simp] theorem x_bAnd (f g : MB) : bAnd f g ρ = (f ρ).bind fun r => if r.1 then g r.2 else some (false, r.2) := rfl
@[simp] theorem x_bOr (f g : MB) : bOr f g ρ = (f ρ).bind fun r => if r.1 then some (true, r.2) else g r.2 := rfl
@[simp] theorem x_bIf (t f g : MB) : bIf t f g ρ = (t ρ).bind fun r => if r.1 then f r.2 else g r.2 := rfl
@[simp] theorem x_eAnd (f g : ME) : eAnd f g ρ = (f ρ).bind fun r => (asB r.1).bind fun b => if b then g r.2 else some (.v (.bool false), r.2) := rfl
@[simp] theorem x_eOr (f g : ME) : eOr f g ρ = (f ρ).bind fun r => (asB r.1).bind fun b => if b then some (.v (.bool true), r.2) else g r.2 := rfl
@[simp] theorem x_eNot (f : ME) : eNot f ρ = (f ρ).bind fun r => (asB r.1).bind fun b => some (.v (.bool (!b)), r.2) := rfl
@[simp] theorem x_eIf (t : MB) (f g : ME) : eIf t f g ρ = (t ρ).bind fun r => if r.1 then f r.2 else g r.2 := rfl
@[simp] theorem x_eChain (g g' : D → D → Option RV) (fa fb fc : MO) : eChain g g' fa fb fc ρ = (fa ρ).bind fun r => (fb r.2).bind fun s => (r.1.get s.2).bind fun x => (s.1.get s.2).bind fun y => (g x y).bind fun z => (asB z).bind fun b =>
  if b then (fc s.2).bind fun t => (s.1.get t.2).bind fun y' => (t.1.get t.2).bind fun w => (g' y' w).bind fun u => some (u, t.2) else some (.v (.bool false), s.2) := rfl
@[simp] theorem x_bChain (g g' : D → D → Option RV) (fa fb fc : MO) : bChain g g' fa fb fc ρ = (eChain g g' fa fb fc ρ).bind fun r => (asB r.1).bind fun b => some (b, r.2) := rfl
@[simp] theorem x_iNo : iNo ρ = some (none, ρ) := rfl
@[simp] theorem x_iSome (f : ME) : iSome f ρ = (f ρ).bind fun r => (asI r.1).bind fun i => some (some i, r.2) := rfl
@[simp] theorem x_eSl (fx : MO) (fl fh : MI) : eSl fx fl fh ρ = (fx ρ).bind fun r => (fl r.2).bind fun l => (fh l.2).bind fun h => (r.1.get h.2).bind fun x => (slD x l.1 h.1).bind fun z => some (z, h.2) := rfl
@[simp] theorem x_eIsi (Ts : List String) (fo : MO) : eIsi Ts fo ρ = (fo ρ).bind fun r => (r.1.get r.2).bind fun d => some (.v (.bool (isiD Ts d)), r.2) := rfl
@[simp] theorem x_sNil : sNil ρ = some (.nx, ρ) := rfl
@[simp] theorem x_sSeq (s t : SS) : sSeq s t ρ = (s ρ).bind fun r => match r.1 with
  | .nx => t r.2
  | o => some (o, r.2) := rfl
@[simp] theorem x_sDrop (f : ME) : sDrop f ρ = (f ρ).bind fun r => some (.nx, r.2) := rfl
@[simp] theorem x_sSet (pr : List Nat) (i : Nat) (f : ME) : sSet pr i f ρ = if pr.contains i then none else (f ρ).bind fun r => some (.nx, r.2.set i (some r.1)) := rfl
@[simp] theorem x_sRet (f : ME) : sRet f ρ = (f ρ).bind fun r => some (.rt r.1, r.2) := rfl
@[simp] theorem x_sRetV (pr : List Nat) (i : Nat) : sRetV pr i ρ = match ρ[i]? with
  | some (some (.v d)) => some (.rt (.v d), ρ)
  | some (some (.o d)) => if pr.contains i || !pr.all (ownAt ρ) then none else some (.rt (.o d), ρ.set i none)
  | _ => none := rfl
@[simp] theorem x_sRetN : sRetN ρ = some (.rt (.v .none), ρ) := rfl
@[simp] theorem x_sIf (t : MB) (a b : SS) : sIf t a b ρ = (t ρ).bind fun r => if r.1 then a r.2 else b r.2 := rfl
@[simp] theorem x_sBad : sBad ρ = none := rfl
@[simp] theorem x_sBk : sBk ρ = some (.bk, ρ) := rfl
@[simp] theorem x_sCt : sCt ρ = some (.ct, ρ) := rfl
@[simp] theorem x_gN (pr : List Nat) (i : Nat) (d : D) : gN pr i d ρ = if pr.contains i then none else some (ρ.set i (some (.v d))) := rfl
@[simp] theorem x_gNil (ds : List D) : gNil ds ρ = match ds with
  | [] => some ρ
  | _ => none := rfl
@[simp] theorem x_gCons (g : SG) (h : SGs) (d : D) (r : List D) : gCons g h (d :: r) ρ = (g d ρ).bind fun ρ1 => h r ρ1 := rfl
@[simp] theorem x_gTn (n : Nat) (h : SGs) (ds : List D) : gTn n h (.tuple ds) ρ = if ds.length = n then h ds ρ else none := rfl
@[simp] theorem x_gIx (o : Nat) (fi : ME) (d : D) : gIx o fi d ρ = (slot ρ o).bind fun _ => (fi ρ).bind fun r => (asV r.1).bind fun i => match r.2[o]? with
  | some (some (.o l)) => (setD l i d).bind fun l' => some (r.2.set o (some (.o l')))
  | _ => none := rfl
@[simp] theorem x_asV (d : D) : asV (.v d) = some d := rfl
@[simp] theorem x_setD (ds : List D) (i : Int) (x : D) : setD (.list ds) (.int i) x = (ixN ds.length i).bind fun j => some (.list (ds.set j x)) := rfl
@[simp] theorem x_sAsg (f : ME) (g : SG) : sAsg f g ρ = (f ρ).bind fun r => (g r.1.d r.2).bind fun ρ2 => some (.nx, ρ2) := rfl
@[simp] theorem x_aNil : aNil ρ = some ([], ρ) := rfl
@[simp] theorem x_aTv (f : ME) (g : MAs) : aTv f g ρ = (f ρ).bind fun r => (g r.2).bind fun s => some (.tv r.1.d :: s.1, s.2) := rfl
@[simp] theorem x_aSl (i : Nat) (g : MAs) : aSl i g ρ = (slot ρ i).bind fun _ => (g ρ).bind fun s => some (.sl i :: s.1, s.2) := rfl
@[simp] theorem x_aOw (f : ME) (g : MAs) : aOw f g ρ = (f ρ).bind fun r => match r.1 with
  | .o d => (g r.2).bind fun s => some (.ow d :: s.1, s.2)
  | _ => none := rfl
@[simp] theorem x_aRv (f : ME) (g : MAs) : aRv f g ρ = (f ρ).bind fun r => (g r.2).bind fun s => some (rvA r.1 :: s.1, s.2) := rfl
@[simp] theorem x_rvA1 (d : D) : rvA (.v d) = .tv d := rfl
@[simp] theorem x_rvA2 (d : D) : rvA (.o d) = .ow d := rfl
@[simp] theorem x_rvsOf0 : rvsOf [] = some [] := rfl
@[simp] theorem x_rvsOf1 (d : D) (r : List AR) : rvsOf (.tv d :: r) = (rvsOf r).bind fun rs => some (.v d :: rs) := rfl
@[simp] theorem x_rvsOf2 (d : D) (r : List AR) : rvsOf (.ow d :: r) = (rvsOf r).bind fun rs => some (.o d :: rs) := rfl
@[simp] theorem x_putRs0 : putRs [] [] ρ = some ρ := rfl
@[simp] theorem x_putRs1 (i : Nat) (is : List Nat) (rv : RV) (rvs : List RV) : putRs (i :: is) (rv :: rvs) ρ = putRs is rvs (ρ.set i (some rv)) := rfl
@[simp] theorem x_sPar (pr is : List Nat) (f : MAs) : sPar pr is f ρ = if is.any pr.contains then none else (f ρ).bind fun r => (rvsOf r.1).bind fun rvs => (putRs is rvs r.2).bind fun ρ2 => some (.nx, ρ2) := rfl
@[simp] theorem x_argsD0 : argsD [] [] ρ = some [] := rfl
@[simp] theorem x_argsD1 (ms : List Bool) (d : D) (ps : List AR) : argsD (false :: ms) (.tv d :: ps) ρ = (argsD ms ps ρ).bind fun ds => some (d :: ds) := rfl
@[simp] theorem x_argsD2 (ms : List Bool) (i : Nat) (ps : List AR) : argsD (true :: ms) (.sl i :: ps) ρ = match ρ[i]? with
    | some (some (.o d)) => (argsD ms ps ρ).bind fun ds => some (d :: ds)
    | _ => none := rfl
@[simp] theorem x_argsD3 (ms : List Bool) (d : D) (ps : List AR) : argsD (true :: ms) (.ow d :: ps) ρ = (argsD ms ps ρ).bind fun ds => some (d :: ds) := rfl
@[simp] theorem x_own0 : ownIx [] [] = [] := rfl
@[simp] theorem x_own1 (ms : List Bool) (p : AR) (ps : List AR) : ownIx (false :: ms) (p :: ps) = ownIx ms ps := rfl
@[simp] theorem x_own2 (ms : List Bool) (i : Nat) (ps : List AR) : ownIx (true :: ms) (.sl i :: ps) = i :: ownIx ms ps := rfl
@[simp] theorem x_own3 (ms : List Bool) (d : D) (ps : List AR) : ownIx (true :: ms) (.ow d :: ps) = ownIx ms ps := rfl
@[simp] theorem x_putO0 : putO [] [] [] ρ = some ρ := rfl
@[simp] theorem x_putO1 (ms : List Bool) (p : AR) (ps : List AR) (os : List D) : putO (false :: ms) (p :: ps) os ρ = putO ms ps os ρ := rfl
@[simp] theorem x_putO2 (ms : List Bool) (i : Nat) (ps : List AR) (d : D) (os : List D) : putO (true :: ms) (.sl i :: ps) (d :: os) ρ = putO ms ps os (ρ.set i (some (.o d))) := rfl
@[simp] theorem x_putO3 (ms : List Bool) (e : D) (ps : List AR) (d : D) (os : List D) : putO (true :: ms) (.ow e :: ps) (d :: os) ρ = putO ms ps os ρ := rfl
@[simp] theorem x_nodup0 : nodupN [] = true := rfl
@[simp] theorem x_nodup1 (i : Nat) : nodupN [i] = true := by simp [nodupN]
@[simp] theorem x_call (F : FnS) (fs : MAs) : eCall F fs ρ = (fs ρ).bind fun x => (argsD F.mask x.1 x.2).bind fun ds => if nodupN (ownIx F.mask x.1) then (F.run ds).bind fun w => (putO F.mask x.1 w.2 x.2).bind fun ρ2 => some (w.1, ρ2) else none := rfl
@[simp] theorem x_callK (F : FnS) (n m : Nat) (pm : List Nat) (fs gs : MOs) : eCallK F n m pm fs gs ρ = (fs ρ).bind fun r => (tvs r.1).bind fun ds => (gs r.2).bind fun s => (tvs s.1).bind fun es => (permL (ds ++ es) pm).bind fun xs =>
  if F.mask.all (fun b => !b) && decide (xs.length = F.mask.length) && decide (ds.length = n) && decide (es.length = m) then (F.run xs).bind fun w => some (w.1, s.2) else none := rfl
@[simp] theorem x_perm0 {α : Type} (xs : List α) : permL xs [] = some [] := rfl
@[simp] theorem x_perm1 {α : Type} (xs : List α) (i : Nat) (is : List Nat) : permL xs (i :: is) = xs[i]?.bind fun x => (permL xs is).bind fun r => some (x :: r) := rfl
@[simp] theorem x_init0 : initR [] [] = [] := rfl
@[simp] theorem x_init1 (ms : List Bool) (d : D) (ds : List D) : initR (false :: ms) (d :: ds) = some (.v d) :: initR ms ds := rfl
@[simp] theorem x_init2 (ms : List Bool) (d : D) (ds : List D) : initR (true :: ms) (d :: ds) = some (.o d) :: initR ms ds := rfl
@[simp] theorem x_pr0 (n : Nat) : prOf n [] = [] := rfl
@[simp] theorem x_pr1 (n : Nat) (ms : List Bool) : prOf n (true :: ms) = n :: prOf (n + 1) ms := rfl
@[simp] theorem x_pr2 (n : Nat) (ms : List Bool) : prOf n (false :: ms) = prOf (n + 1) ms := rfl
@[simp] theorem x_outs0 : outsOf ρ [] = some [] := rfl
@[simp] theorem x_outs1 (i : Nat) (is : List Nat) : outsOf ρ (i :: is) = match ρ[i]? with
    | some (some (.o d)) => (outsOf ρ is).bind fun ds => some (d :: ds)
    | _ => none := rfl
theorem x_run (n : Nat) (mask : List Bool) (body : SS) (ds : List D) (h : ds.length = mask.length) : runF n mask body ds = (body (initR mask ds ++ List.replicate (n - mask.length) none)).bind fun r => match r.1 with
    | .rt rv => (outsOf r.2 (prOf 0 mask)).bind fun os => some (rv, os)
    | .nx => (outsOf r.2 (prOf 0 mask)).bind fun os => some (.v .none, os)
    | _ => none := if_pos h
@[simp] theorem x_addI (i j : Int) : addD (.int i) (.int j) = some (.v (.int (i + j))) := rfl
@[simp] theorem x_subI (i j : Int) : subD (.int i) (.int j) = some (.v (.int (i - j))) := rfl
@[simp] theorem x_ltI (i j : Int) : ltD (.int i) (.int j) = some (.v (.bool (decide (i < j)))) := rfl
@[simp] theorem x_leI (i j : Int) : leD (.int i) (.int j) = some (.v (.bool (decide (i ≤ j)))) := rfl
@[simp] theorem x_gtI (i j : Int) : gtD (.int i) (.int j) = some (.v (.bool (decide (j < i)))) := rfl
@[simp] theorem x_geI (i j : Int) : geD (.int i) (.int j) = some (.v (.bool (decide (j ≤ i)))) := rfl
@[simp] theorem x_negI (i : Int) : negD (.int i) = some (.v (.int (-i))) := rfl
theorem x_mulI (i j : Int) : mulD (.int i) (.int j) = if in64 i || in64 j then some (.v (.int (i * j))) else none := rfl
theorem x_divI (i j : Int) : fdivD (.int i) (.int j) = if decide (0 < j) && decide (j < 1073741824) then some (.v (.int (i / j))) else none := rfl
theorem x_modI (i j : Int) : modD (.int i) (.int j) = if decide (0 < j) then some (.v (.int (i % j))) else none := rfl
@[simp] theorem x_truB (b : Bool) : truD (.bool b) = some b := rfl
@[simp] theorem x_intI (i : Int) : intD [.int i] = some (.v (.int i)) := rfl
@[simp] theorem x_eqI (i j : Int) : eqD (.int i) (.int j) = some (.v (.bool (decide (i = j)))) := by
  unfold eqD
  rw [if_pos (show (okE (.int i) && okE (.int j)) = true from rfl)]
  rfl

@[simp] theorem x_mod {i j : Int} (h : 0 < j) : modD (.int i) (.int j) = some (.v (.int (i % j))) := by rw [x_modI, decide_eq_true h]; rfl
@[simp] theorem x_div {i j : Int} (h : 0 < j) (h2 : j < 1073741824) : fdivD (.int i) (.int j) = some (.v (.int (i / j))) := by rw [x_divI, decide_eq_true h, decide_eq_true h2]; rfl
theorem in64_of {i : Int} (h1 : -18446744073709551616 < i) (h2 : i < 18446744073709551616) : in64 i = true := by
  exact decide_eq_true (show i.natAbs < 18446744073709551616 by omega)
@[simp] theorem x_mulR {i j : Int} (h1 : -18446744073709551616 < j) (h2 : j < 18446744073709551616) : mulD (.int i) (.int j) = some (.v (.int (i * j))) := by rw [x_mulI, in64_of h1 h2, Bool.or_true]; rfl
@[simp] theorem x_mulL {i j : Int} (h1 : -18446744073709551616 < i) (h2 : i < 18446744073709551616) : mulD (.int i) (.int j) = some (.v (.int (i * j))) := by rw [x_mulI, in64_of h1 h2, Bool.true_or]; rfl
@[simp] theorem x_pow {i j : Int} (h0 : 0 ≤ j) (h : j ≤ 1000000) (h1 : -18446744073709551616 < i) (h2 : i < 18446744073709551616) : powD (.int i) (.int j) = some (.v (.int (i ^ j.toNat))) := by
  show (if decide (0 ≤ j) && decide (j ≤ 1000000) && in64 i then some (RV.v (.int (i ^ j.toNat))) else none) = _
  rw [decide_eq_true h0, decide_eq_true h, in64_of h1 h2]; rfl
@[simp] theorem x_divmod {i j : Int} (h : 0 < j) (h2 : j < 1073741824) : divmodD [.int i, .int j] = some (.v (.tuple [.int (i / j), .int (i % j)])) := by
  show (if decide (0 < j) && decide (j < 1073741824) then some (RV.v (.tuple [.int (i / j), .int (i % j)])) else none) = _
  rw [decide_eq_true h, decide_eq_true h2]; rfl
@[simp] theorem x_absI (i : Int) : absD [.int i] = some (.v (.int (if i < 0 then -i else i))) := rfl
@[simp] theorem x_maxI (i j : Int) : maxD [.int i, .int j] = some (.v (.int (if j > i then j else i))) := rfl
@[simp] theorem x_minI (i j : Int) : minD [.int i, .int j] = some (.v (.int (if j < i then j else i))) := rfl
@[simp] theorem x_lenL (ds : List D) : lenD [.list ds] = some (.v (.int ds.length)) := rfl
@[simp] theorem x_lenT (ds : List D) : lenD [.tuple ds] = some (.v (.int ds.length)) := rfl
@[simp] theorem x_ixL (xs : List D) (i : Int) : ixD (.list xs) (.int i) = (atI xs i).map .v := rfl
@[simp] theorem x_ixT (xs : List D) (i : Int) : ixD (.tuple xs) (.int i) = (atI xs i).map .v := rfl
theorem ixN_of {n : Nat} {j : Nat} : ixN n (j : Int) = if j < n then some j else none := by
  unfold ixN
  rw [if_pos (by omega)]
  by_cases h : j < n
  · rw [if_pos (by omega), if_pos h]; simp
  · rw [if_neg (by omega), if_neg h]
@[simp] theorem x_ixN0 (n : Nat) : ixN n 0 = if 0 < n then some 0 else none := ixN_of (j := 0)
@[simp] theorem x_ixN1 (n : Nat) : ixN n 1 = if 1 < n then some 1 else none := ixN_of (j := 1)
@[simp] theorem x_ixN2 (n : Nat) : ixN n 2 = if 2 < n then some 2 else none := ixN_of (j := 2)
@[simp] theorem x_ixN3 (n : Nat) : ixN n 3 = if 3 < n then some 3 else none := ixN_of (j := 3)
@[simp] theorem x_ixN4 (n : Nat) : ixN n 4 = if 4 < n then some 4 else none := ixN_of (j := 4)
@[simp] theorem x_ixN5 (n : Nat) : ixN n 5 = if 5 < n then some 5 else none := ixN_of (j := 5)
@[simp] theorem x_ixN6 (n : Nat) : ixN n 6 = if 6 < n then some 6 else none := ixN_of (j := 6)
@[simp] theorem x_ixN7 (n : Nat) : ixN n 7 = if 7 < n then some 7 else none := ixN_of (j := 7)
@[simp] theorem x_ixN8 (n : Nat) : ixN n 8 = if 8 < n then some 8 else none := ixN_of (j := 8)
@[simp] theorem x_ixN9 (n : Nat) : ixN n 9 = if 9 < n then some 9 else none := ixN_of (j := 9)
@[simp] theorem x_ixN10 (n : Nat) : ixN n 10 = if 10 < n then some 10 else none := ixN_of (j := 10)
@[simp] theorem x_ixN11 (n : Nat) : ixN n 11 = if 11 < n then some 11 else none := ixN_of (j := 11)
@[simp] theorem x_ixN12 (n : Nat) : ixN n 12 = if 12 < n then some 12 else none := ixN_of (j := 12)
@[simp] theorem x_ixNm (n : Nat) : ixN n (-1) = if 0 < n then some (n - 1) else none := by
  unfold ixN
  rw [if_neg (by decide)]
  by_cases h : 0 < n
  · rw [if_pos (by omega), if_pos h]; congr 1; omega
  · rw [if_neg (by omega), if_neg h]
theorem atI_of {xs : List D} {j : Nat} : atI xs (j : Int) = xs[j]? := by
  unfold atI
  rw [ixN_of]
  by_cases h : j < xs.length
  · rw [if_pos h]; rfl
  · rw [if_neg h, List.getElem?_eq_none (by omega)]; rfl
@[simp] theorem x_at0 (xs : List D) : atI xs 0 = xs[0]? := atI_of (j := 0)
@[simp] theorem x_at1 (xs : List D) : atI xs 1 = xs[1]? := atI_of (j := 1)
@[simp] theorem x_at2 (xs : List D) : atI xs 2 = xs[2]? := atI_of (j := 2)
@[simp] theorem x_at3 (xs : List D) : atI xs 3 = xs[3]? := atI_of (j := 3)
@[simp] theorem x_at4 (xs : List D) : atI xs 4 = xs[4]? := atI_of (j := 4)
@[simp] theorem x_at5 (xs : List D) : atI xs 5 = xs[5]? := atI_of (j := 5)
@[simp] theorem x_at6 (xs : List D) : atI xs 6 = xs[6]? := atI_of (j := 6)
@[simp] theorem x_at7 (xs : List D) : atI xs 7 = xs[7]? := atI_of (j := 7)
@[simp] theorem x_at8 (xs : List D) : atI xs 8 = xs[8]? := atI_of (j := 8)
@[simp] theorem x_at9 (xs : List D) : atI xs 9 = xs[9]? := atI_of (j := 9)
@[simp] theorem x_at10 (xs : List D) : atI xs 10 = xs[10]? := atI_of (j := 10)
@[simp] theorem x_at11 (xs : List D) : atI xs 11 = xs[11]? := atI_of (j := 11)
@[simp] theorem x_at12 (xs : List D) : atI xs 12 = xs[12]? := atI_of (j := 12)
@[simp] theorem x_atm (xs : List D) : atI xs (-1) = xs[xs.length - 1]? := by
  unfold atI
  rw [x_ixNm]
  by_cases h : 0 < xs.length
  · rw [if_pos h]; rfl
  · rw [if_neg h, List.getElem?_eq_none (by omega)]; rfl
@[simp] theorem x_isN1 (d : D) : isD d .none = some (.v (.bool (isN d))) := by cases d <;> rfl
@[simp] theorem x_isNN : isN .none = true := rfl
@[simp] theorem x_isB (a b : Bool) : isD (.bool a) (.bool b) = some (.v (.bool (decide (a = b)))) := rfl
theorem x_isNot (x y : D) : isNotD x y = match isD x y with
  | some (.v (.bool b)) => bl (!b)
  | _ => none := rfl
@[simp] theorem x_isNotN (d : D) : isNotD d .none = some (.v (.bool (!isN d))) := by rw [x_isNot, x_isN1]; rfl
@[simp] theorem x_isNotB (a b : Bool) : isNotD (.bool a) (.bool b) = some (.v (.bool (!decide (a = b)))) := rfl
@[simp] theorem x_eqB (i j : Bool) : eqD (.bool i) (.bool j) = some (.v (.bool (decide (i = j)))) := by cases i <;> cases j <;> rfl
theorem x_neq (x y : D) (h : (okE x && okE y) = true) : neD x y = match eqD x y with
  | some (.v (.bool b)) => bl (!b)
  | _ => none := by
  unfold neD eqD
  rw [if_pos h, if_pos h]; rfl
@[simp] theorem x_neI (i j : Int) : neD (.int i) (.int j) = some (.v (.bool (!decide (i = j)))) := by rw [x_neq _ _ rfl, x_eqI]; rfl
@[simp] theorem x_sFor (fi : MIt) (g : SG) (b : SS) : sFor fi g b ρ = (fi ρ).bind fun r => forL g b r.1 r.2 := rfl
@[simp] theorem x_iSeq (f : ME) : iSeq f ρ = (f ρ).bind fun r => match r.1 with
  | .v (.list ds) => some (ds, r.2)
  | .v (.tuple ds) => some (ds, r.2)
  | .v (.str s) => some (signs s, r.2)
  | .o (.list ds) => some (ds, r.2)
  | .o (.dict ds) => some (keysD ds, r.2)
  | _ => none := rfl
@[simp] theorem x_iFn (fi : List D → Option (List D)) (fs : MOs) : iFn fi fs ρ = (fs ρ).bind fun r => (tvs r.1).bind fun xs => (fi xs).bind fun ds => some (ds, r.2) := rfl
theorem in62_of {i : Int} (h1 : -4611686018427387904 < i) (h2 : i < 4611686018427387904) : in62 i = true := by
  exact decide_eq_true (show i.natAbs < 4611686018427387904 by omega)
@[simp] theorem x_rng1 {j : Int} (h1 : -4611686018427387904 < j) (h2 : j < 4611686018427387904) : rng1 [.int j] = some (upTo 0 j.toNat) := by
  show (if in62 j then some (upTo 0 j.toNat) else none) = _
  rw [in62_of h1 h2]; rfl
@[simp] theorem x_rng2 {i j : Int} (h1 : -4611686018427387904 < j) (h2 : j < 4611686018427387904) (h3 : -4611686018427387904 < i) (h4 : i < 4611686018427387904) : rng2 [.int i, .int j] = some (upTo i (j - i).toNat) := by
  show (if in62 i && in62 j then some (upTo i (j - i).toNat) else none) = _
  rw [in62_of h1 h2, in62_of h3 h4]; rfl
@[simp] theorem x_eRg1 (l : Bool) (fa : ME) : eRg1 l fa ρ = (fa ρ).bind fun r => (asI r.1).bind fun n => (mkRg l 0 n).bind fun z => some (z, r.2) := rfl
@[simp] theorem x_eRg2 (l : Bool) (fa fb : ME) : eRg2 l fa fb ρ = (fa ρ).bind fun r => (asI r.1).bind fun m => (fb r.2).bind fun s => (asI s.1).bind fun n => (mkRg l m n).bind fun z => some (z, s.2) := rfl
theorem mkRg_ok {l : Bool} {a b : Int} (h1 : -16777216 ≤ a) (h2 : a ≤ 16777216) (h3 : b ≤ 16777216) (h4 : b - a ≤ 16777216) (h5 : -16777216 ≤ b) : mkRg l a b = some (if l then .o (.list (upTo a (b - a).toNat)) else .v (.tuple (upTo a (b - a).toNat))) := by
  unfold mkRg
  rw [in62_of (by omega) (by omega), in62_of (by omega) (by omega), show szb (b - a).toNat = true from decide_eq_true (by omega)]; rfl
@[simp] theorem x_eLc (vs : List Nat) (fi : MIt) (g : SG) (t : MB) (f : ME) : eLc vs fi g t f ρ = (fi ρ).bind fun r =>
  if vs.any (ownAt r.2) then none else (lcL vs g t f r.1 (wipeR r.2 vs) []).bind fun s => some (.o (.list s.1), backR r.2 s.2 vs) := rfl
@[simp] theorem x_eLc2 (vs vs1 : List Nat) (fi : MIt) (g : SG) (t : MB) (fi1 : MIt) (g1 : SG) (t1 : MB) (f : ME) : eLc2 vs vs1 fi g t fi1 g1 t1 f ρ = (fi ρ).bind fun r =>
  if vs.any (ownAt r.2) then none else (lcL2 vs vs1 g t fi1 g1 t1 f r.1 (wipeR r.2 vs) []).bind fun s => some (.o (.list s.1), backR r.2 s.2 vs) := rfl
@[simp] theorem x_bYes : bYes ρ = some (true, ρ) := rfl
@[simp] theorem x_wipe0 : wipeR ρ [] = ρ := rfl
@[simp] theorem x_wipe1 (v : Nat) (vs : List Nat) : wipeR ρ (v :: vs) = (wipeR ρ vs).set v none := rfl
@[simp] theorem x_back0 (ρ0 : Rho) : backR ρ0 ρ [] = ρ := rfl
@[simp] theorem x_back1 (ρ0 : Rho) (v : Nat) (vs : List Nat) : backR ρ0 ρ (v :: vs) = (backR ρ0 ρ vs).set v ((ρ0[v]?).getD none) := rfl
@[simp] theorem x_ownAt (i : Nat) : ownAt ρ i = match ρ[i]? with
  | some (some (.o _)) => true
  | _ => false := rfl
@[simp] theorem x_slL (xs : List D) (lo hi : Option Int) : slD (.list xs) lo hi = some (.o (.list (cut xs lo hi))) := rfl
@[simp] theorem x_slT (xs : List D) (lo hi : Option Int) : slD (.tuple xs) lo hi = some (.v (.tuple (cut xs lo hi))) := rfl
theorem szb_of {n : Nat} (h : n ≤ 16777216) : szb n = true := decide_eq_true h
theorem x_addL {xs ys : List D} (h : xs.length + ys.length ≤ 16777216) : addD (.list xs) (.list ys) = some (.o (.list (xs ++ ys))) := by
  show (if szb (xs.length + ys.length) then some (RV.o (.list (xs ++ ys))) else none) = _
  rw [szb_of h]; rfl
theorem x_addT {xs ys : List D} (h : xs.length + ys.length ≤ 16777216) : addD (.tuple xs) (.tuple ys) = some (.v (.tuple (xs ++ ys))) := by
  show (if szb (xs.length + ys.length) then some (RV.v (.tuple (xs ++ ys))) else none) = _
  rw [szb_of h]; rfl
theorem cut_take (xs : List D) (k : Nat) : cut xs none (some (k : Int)) = xs.take k := by
  unfold cut
  rw [HT.sIx_none, HT.sIx_nat, List.drop_zero, Nat.sub_zero]
  rw [List.take_eq_take_iff]; omega
theorem boolsOf_mp {α : Type} (p : α → Bool) : ∀ l : List α, boolsOf (l.map fun x => .bool (p x)) = some (l.map p)
  | [] => rfl
  | x :: l => by rw [List.map_cons, boolsOf, boolsOf_mp p l]; rfl
theorem x_all {ds : List D} {bs : List Bool} (h : boolsOf ds = some bs) : allD [.list ds] = some (.v (.bool (bs.all id))) := by
  show (boolsOf ds).map (fun bs => RV.v (.bool (bs.all id))) = _
  rw [h]; rfl
end

/-! ## loops -/
theorem forL_gen {g : SG} {b : SS} {I : List D → Rho → Prop} {Z : Out → Rho → Prop} (step : ∀ d ds ρ, I (d :: ds) ρ → ∃ ρ1, g d ρ = some ρ1 ∧ ∃ o ρ2, b ρ1 = some (o, ρ2) ∧ match o with
    | .nx => I ds ρ2
    | .ct => I ds ρ2
    | .bk => Z .nx ρ2
    | .rt v => Z (.rt v) ρ2) (fin : ∀ ρ, I [] ρ → Z .nx ρ) : ∀ ds ρ, I ds ρ → ∃ o ρ', forL g b ds ρ = some (o, ρ') ∧ Z o ρ'
  | [], ρ, h => ⟨.nx, ρ, rfl, fin ρ h⟩
  | d :: ds, ρ, h => by
    obtain ⟨ρ1, h1, o, ρ2, h2, h3⟩ := step d ds ρ h
    unfold forL
    rw [h1, Option.bind_some, h2, Option.bind_some]
    cases o with
    | nx => exact forL_gen step fin ds ρ2 h3
    | ct => exact forL_gen step fin ds ρ2 h3
    | bk => exact ⟨.nx, ρ2, rfl, h3⟩
    | rt v => exact ⟨.rt v, ρ2, rfl, h3⟩
theorem forL_st {g : SG} {b : SS} {I : List D → Rho → Prop} (step : ∀ d ds ρ, I (d :: ds) ρ → ∃ ρ1, g d ρ = some ρ1 ∧ ∃ ρ2, b ρ1 = some (.nx, ρ2) ∧ I ds ρ2) : ∀ ds ρ, I ds ρ → ∃ ρ', forL g b ds ρ = some (.nx, ρ') ∧ I [] ρ'
  | [], ρ, h => ⟨ρ, rfl, h⟩
  | d :: ds, ρ, h => by
    obtain ⟨ρ1, h1, ρ2, h2, h3⟩ := step d ds ρ h
    unfold forL
    rw [h1, Option.bind_some, h2, Option.bind_some]
    exact forL_st step ds ρ2 h3
theorem whileN_ok {t : MB} {b : SS} {I : Nat → Rho → Prop} {J : Rho → Prop} (step : ∀ m ρ, I m ρ → (∃ ρ1, t ρ = some (false, ρ1) ∧ J ρ1) ∨ ∃ ρ1 ρ2 m', t ρ = some (true, ρ1) ∧ b ρ1 = some (.nx, ρ2) ∧ m' < m ∧ I m' ρ2) :
    ∀ n m ρ, m < n → I m ρ → ∃ ρ', whileN t b n ρ = some (.nx, ρ') ∧ J ρ'
  | 0, m, ρ, h, _ => by omega
  | n + 1, m, ρ, h, i => by
    unfold whileN
    rcases step m ρ i with ⟨ρ1, h1, h2⟩ | ⟨ρ1, ρ2, m', h1, h2, h3, h4⟩
    · rw [h1, Option.bind_some]
      exact ⟨ρ1, rfl, h2⟩
    · rw [h1, Option.bind_some]
      simp only [if_true, h2, Option.bind_some]
      exact whileN_ok step n m' ρ2 (by omega) h4
theorem lcL_st {vs : List Nat} {g : SG} {t : MB} {f : ME} {I : List D → List D → Rho → Prop} (step : ∀ d ds acc ρ, I (d :: ds) acc ρ → ∃ ρ1 ρ2 k, g d ρ = some ρ1 ∧ t ρ1 = some (k, ρ2) ∧
      if k then ∃ rv ρ3, f ρ2 = some (rv, ρ3) ∧ acc.length < 16777216 ∧ I ds (acc ++ [rv.d]) (wipeR ρ3 vs) else I ds acc (wipeR ρ2 vs)) :
    ∀ ds acc ρ, I ds acc ρ → ∃ acc' ρ', lcL vs g t f ds ρ acc = some (acc', ρ') ∧ I [] acc' ρ'
  | [], acc, ρ, h => ⟨acc, ρ, rfl, h⟩
  | d :: ds, acc, ρ, h => by
    obtain ⟨ρ1, ρ2, k, h1, h2, h3⟩ := step d ds acc ρ h
    unfold lcL
    rw [h1, Option.bind_some, h2, Option.bind_some]
    cases k with
    | false => exact lcL_st step ds acc _ h3
    | true =>
      obtain ⟨rv, ρ3, h4, h5, h6⟩ := h3
      simp only [if_true, h4, Option.bind_some, decide_eq_true h5]
      exact lcL_st step ds _ _ h6
/-- a comprehension that leaves its names as they were -/
theorem lcL_map {vs : List Nat} {g : SG} {t : MB} {f : ME} {ρ0 : Rho} (h : D → D) {ds : List D} (hl : ds.length ≤ 16777216) (step : ∀ d ∈ ds, ∃ ρ1 ρ2 rv ρ3, g d ρ0 = some ρ1 ∧ t ρ1 = some (true, ρ2) ∧ f ρ2 = some (rv, ρ3) ∧ rv.d = h d ∧ wipeR ρ3 vs = ρ0) :
    lcL vs g t f ds ρ0 [] = some (ds.map h, ρ0) := by
  have gen : ∀ (es acc : List D), (∀ d ∈ es, d ∈ ds) → acc.length + es.length ≤ 16777216 → lcL vs g t f es ρ0 acc = some (acc ++ es.map h, ρ0) := by
    intro es
    induction es with
    | nil => intro acc _ _; unfold lcL; rw [List.map_nil, List.append_nil]
    | cons d es ih =>
      intro acc hm ha
      obtain ⟨ρ1, ρ2, rv, ρ3, h1, h2, h3, h4, h5⟩ := step d (hm d List.mem_cons_self)
      unfold lcL
      rw [List.length_cons] at ha
      rw [h1, Option.bind_some, h2, Option.bind_some]
      simp only [if_true, h3, Option.bind_some, decide_eq_true (show acc.length < 16777216 by omega), h4, h5]
      rw [ih _ (fun e he => hm e (List.mem_cons_of_mem _ he)) (by rw [List.length_append, List.length_singleton]; omega), List.append_assoc]
      rfl
  have := gen ds [] (fun _ h => h) (by simpa using hl)
  simpa using this
end Z
namespace Z
open PySem PySem.Spec L2
open PyProof.Rows hiding St

/-! ## constants of the module that hold tuples -/
theorem datsB_ok {K : PySem.W.Frag} {f : D → Value → Bool} (ih : ∀ d u, f d u = true → ∃ v, RelV v u ∧ ∀ H O, Rep K H O d v) : ∀ (ds : List D) (us : List Value), datsB f ds us = true → ∃ vs, Vals vs us ∧ ∀ H O, Reps K H O ds vs
  | [], [], _ => ⟨[], .nil, fun _ _ => .nil⟩
  | d :: ds, u :: us, h => by
    have h : (f d u && datsB f ds us) = true := h
    rw [Bool.and_eq_true] at h
    obtain ⟨v, h1, h2⟩ := ih d u h.1
    obtain ⟨vs, h3, h4⟩ := datsB_ok ih ds us h.2
    exact ⟨v :: vs, .cons h1 h3, fun H O => .cons (h2 H O) (h4 H O)⟩
  | [], _ :: _, h => by cases h
  | _ :: _, [], h => by cases h
theorem datB_ok {K : PySem.W.Frag} : ∀ (n : Nat) (d : D) (u : Value), datB K n d u = true → ∃ v, RelV v u ∧ ∀ H O, Rep K H O d v := by
  intro n
  induction n with
  | zero =>
    intro d u h
    unfold datB at h
    split at h
    · exact ⟨_, He.relB_ok h, fun _ _ => .non⟩
    · exact ⟨_, He.relB_ok h, fun _ _ => .bl _⟩
    · exact ⟨_, He.relB_ok h, fun _ _ => .int _⟩
    · rw [Bool.and_eq_true] at h
      exact ⟨_, He.relB_ok h.2, fun _ _ => .str _ h.1⟩
    · rename_i e; cases e
    · cases h
  | succ n ih =>
    intro d u h
    unfold datB at h
    split at h
    · exact ⟨_, He.relB_ok h, fun _ _ => .non⟩
    · exact ⟨_, He.relB_ok h, fun _ _ => .bl _⟩
    · exact ⟨_, He.relB_ok h, fun _ _ => .int _⟩
    · rw [Bool.and_eq_true] at h
      exact ⟨_, He.relB_ok h.2, fun _ _ => .str _ h.1⟩
    · rename_i e
      cases e
      split at h
      · rename_i c od its m osl q
        simp only [Bool.and_eq_true, decide_eq_true_eq] at h
        obtain ⟨h1, h2, h3⟩ := h
        obtain ⟨vs, h4, h5⟩ := datsB_ok ih _ _ h3
        exact ⟨.ref _, rfl, fun H O => .tup (.inr (.inr ⟨_, its, m, q, congrArg Value.type h1, rfl, h2, h4⟩)) (h5 H O)⟩
      · cases h
    · cases h
theorem datG_ok {K : PySem.W.Frag} {h : Heap} {mg : Str → Option Value} {x : Str} {d : D} (X : K.In h) (G : h.Ns mainGlobals mg) (c : datG K (x, d) = true) : ∃ v u, mg x = some u ∧ RelV v u ∧ ∀ H O, Rep K H O d v := by
  unfold datG at c
  split at c
  · rename_i u e
    obtain ⟨v, h1, h2⟩ := datB_ok 6 d u c
    exact ⟨v, u, PySem.W.mg_of X G e, h1, h2⟩
  · cases c
theorem TabOk.putC {k : Nat} {T : Tab} {P : Program} {w : World} {K : PySem.W.Frag} {mg : Str → Option Value} {base h : Heap} (t : TabOk k T P w K mg base) {x : Str} {d : D} (X : K.In h) (G : h.Ns mainGlobals mg) (c : datG K (x, d) = true) : TabOk k (T.put x d) P w K mg base := by
  obtain ⟨v, u, h1, h2, h3⟩ := datG_ok X G c
  exact t.put h1 h2 h3
end Z
namespace Z
open PySem PySem.Spec L2
open PyProof.Rows hiding St

/-! ## more lemmas for simp: types, texts, cuts -/
@[simp] theorem x_is1 (b : Bool) (i : Int) (s : Str) (l : List D) (m : List (D × D)) : isiD ["int"] .none = false := rfl
@[simp] theorem x_is2 (b : Bool) (i : Int) (s : Str) (l : List D) (m : List (D × D)) : isiD ["int"] (.bool b) = true := rfl
@[simp] theorem x_is3 (b : Bool) (i : Int) (s : Str) (l : List D) (m : List (D × D)) : isiD ["int"] (.int i) = true := rfl
@[simp] theorem x_is4 (b : Bool) (i : Int) (s : Str) (l : List D) (m : List (D × D)) : isiD ["int"] (.str s) = false := rfl
@[simp] theorem x_is5 (b : Bool) (i : Int) (s : Str) (l : List D) (m : List (D × D)) : isiD ["int"] (.list l) = false := rfl
@[simp] theorem x_is6 (b : Bool) (i : Int) (s : Str) (l : List D) (m : List (D × D)) : isiD ["int"] (.tuple l) = false := rfl
@[simp] theorem x_is7 (b : Bool) (i : Int) (s : Str) (l : List D) (m : List (D × D)) : isiD ["int"] (.dict m) = false := rfl
@[simp] theorem x_is8 (b : Bool) (i : Int) (s : Str) (l : List D) (m : List (D × D)) : isiD ["bool"] .none = false := rfl
@[simp] theorem x_is9 (b : Bool) (i : Int) (s : Str) (l : List D) (m : List (D × D)) : isiD ["bool"] (.bool b) = true := rfl
@[simp] theorem x_is10 (b : Bool) (i : Int) (s : Str) (l : List D) (m : List (D × D)) : isiD ["bool"] (.int i) = false := rfl
@[simp] theorem x_is11 (b : Bool) (i : Int) (s : Str) (l : List D) (m : List (D × D)) : isiD ["bool"] (.str s) = false := rfl
@[simp] theorem x_is12 (b : Bool) (i : Int) (s : Str) (l : List D) (m : List (D × D)) : isiD ["bool"] (.list l) = false := rfl
@[simp] theorem x_is13 (b : Bool) (i : Int) (s : Str) (l : List D) (m : List (D × D)) : isiD ["bool"] (.tuple l) = false := rfl
@[simp] theorem x_is14 (b : Bool) (i : Int) (s : Str) (l : List D) (m : List (D × D)) : isiD ["bool"] (.dict m) = false := rfl
@[simp] theorem x_is15 (b : Bool) (i : Int) (s : Str) (l : List D) (m : List (D × D)) : isiD ["str"] .none = false := rfl
@[simp] theorem x_is16 (b : Bool) (i : Int) (s : Str) (l : List D) (m : List (D × D)) : isiD ["str"] (.bool b) = false := rfl
@[simp] theorem x_is17 (b : Bool) (i : Int) (s : Str) (l : List D) (m : List (D × D)) : isiD ["str"] (.int i) = false := rfl
@[simp] theorem x_is18 (b : Bool) (i : Int) (s : Str) (l : List D) (m : List (D × D)) : isiD ["str"] (.str s) = true := rfl
@[simp] theorem x_is19 (b : Bool) (i : Int) (s : Str) (l : List D) (m : List (D × D)) : isiD ["str"] (.list l) = false := rfl
@[simp] theorem x_is20 (b : Bool) (i : Int) (s : Str) (l : List D) (m : List (D × D)) : isiD ["str"] (.tuple l) = false := rfl
@[simp] theorem x_is21 (b : Bool) (i : Int) (s : Str) (l : List D) (m : List (D × D)) : isiD ["str"] (.dict m) = false := rfl
@[simp] theorem x_is22 (b : Bool) (i : Int) (s : Str) (l : List D) (m : List (D × D)) : isiD ["list"] .none = false := rfl
@[simp] theorem x_is23 (b : Bool) (i : Int) (s : Str) (l : List D) (m : List (D × D)) : isiD ["list"] (.bool b) = false := rfl
@[simp] theorem x_is24 (b : Bool) (i : Int) (s : Str) (l : List D) (m : List (D × D)) : isiD ["list"] (.int i) = false := rfl
@[simp] theorem x_is25 (b : Bool) (i : Int) (s : Str) (l : List D) (m : List (D × D)) : isiD ["list"] (.str s) = false := rfl
@[simp] theorem x_is26 (b : Bool) (i : Int) (s : Str) (l : List D) (m : List (D × D)) : isiD ["list"] (.list l) = true := rfl
@[simp] theorem x_is27 (b : Bool) (i : Int) (s : Str) (l : List D) (m : List (D × D)) : isiD ["list"] (.tuple l) = false := rfl
@[simp] theorem x_is28 (b : Bool) (i : Int) (s : Str) (l : List D) (m : List (D × D)) : isiD ["list"] (.dict m) = false := rfl
@[simp] theorem x_is29 (b : Bool) (i : Int) (s : Str) (l : List D) (m : List (D × D)) : isiD ["tuple"] .none = false := rfl
@[simp] theorem x_is30 (b : Bool) (i : Int) (s : Str) (l : List D) (m : List (D × D)) : isiD ["tuple"] (.bool b) = false := rfl
@[simp] theorem x_is31 (b : Bool) (i : Int) (s : Str) (l : List D) (m : List (D × D)) : isiD ["tuple"] (.int i) = false := rfl
@[simp] theorem x_is32 (b : Bool) (i : Int) (s : Str) (l : List D) (m : List (D × D)) : isiD ["tuple"] (.str s) = false := rfl
@[simp] theorem x_is33 (b : Bool) (i : Int) (s : Str) (l : List D) (m : List (D × D)) : isiD ["tuple"] (.list l) = false := rfl
@[simp] theorem x_is34 (b : Bool) (i : Int) (s : Str) (l : List D) (m : List (D × D)) : isiD ["tuple"] (.tuple l) = true := rfl
@[simp] theorem x_is35 (b : Bool) (i : Int) (s : Str) (l : List D) (m : List (D × D)) : isiD ["tuple"] (.dict m) = false := rfl
@[simp] theorem x_is36 (b : Bool) (i : Int) (s : Str) (l : List D) (m : List (D × D)) : isiD ["dict"] .none = false := rfl
@[simp] theorem x_is37 (b : Bool) (i : Int) (s : Str) (l : List D) (m : List (D × D)) : isiD ["dict"] (.bool b) = false := rfl
@[simp] theorem x_is38 (b : Bool) (i : Int) (s : Str) (l : List D) (m : List (D × D)) : isiD ["dict"] (.int i) = false := rfl
@[simp] theorem x_is39 (b : Bool) (i : Int) (s : Str) (l : List D) (m : List (D × D)) : isiD ["dict"] (.str s) = false := rfl
@[simp] theorem x_is40 (b : Bool) (i : Int) (s : Str) (l : List D) (m : List (D × D)) : isiD ["dict"] (.list l) = false := rfl
@[simp] theorem x_is41 (b : Bool) (i : Int) (s : Str) (l : List D) (m : List (D × D)) : isiD ["dict"] (.tuple l) = false := rfl
@[simp] theorem x_is42 (b : Bool) (i : Int) (s : Str) (l : List D) (m : List (D × D)) : isiD ["dict"] (.dict m) = true := rfl
@[simp] theorem x_is43 (b : Bool) (i : Int) (s : Str) (l : List D) (m : List (D × D)) : isiD ["tuple", "list"] .none = false := rfl
@[simp] theorem x_is44 (b : Bool) (i : Int) (s : Str) (l : List D) (m : List (D × D)) : isiD ["tuple", "list"] (.bool b) = false := rfl
@[simp] theorem x_is45 (b : Bool) (i : Int) (s : Str) (l : List D) (m : List (D × D)) : isiD ["tuple", "list"] (.int i) = false := rfl
@[simp] theorem x_is46 (b : Bool) (i : Int) (s : Str) (l : List D) (m : List (D × D)) : isiD ["tuple", "list"] (.str s) = false := rfl
@[simp] theorem x_is47 (b : Bool) (i : Int) (s : Str) (l : List D) (m : List (D × D)) : isiD ["tuple", "list"] (.list l) = true := rfl
@[simp] theorem x_is48 (b : Bool) (i : Int) (s : Str) (l : List D) (m : List (D × D)) : isiD ["tuple", "list"] (.tuple l) = true := rfl
@[simp] theorem x_is49 (b : Bool) (i : Int) (s : Str) (l : List D) (m : List (D × D)) : isiD ["tuple", "list"] (.dict m) = false := rfl
@[simp] theorem x_is50 (b : Bool) (i : Int) (s : Str) (l : List D) (m : List (D × D)) : isiD ["list", "tuple"] .none = false := rfl
@[simp] theorem x_is51 (b : Bool) (i : Int) (s : Str) (l : List D) (m : List (D × D)) : isiD ["list", "tuple"] (.bool b) = false := rfl
@[simp] theorem x_is52 (b : Bool) (i : Int) (s : Str) (l : List D) (m : List (D × D)) : isiD ["list", "tuple"] (.int i) = false := rfl
@[simp] theorem x_is53 (b : Bool) (i : Int) (s : Str) (l : List D) (m : List (D × D)) : isiD ["list", "tuple"] (.str s) = false := rfl
@[simp] theorem x_is54 (b : Bool) (i : Int) (s : Str) (l : List D) (m : List (D × D)) : isiD ["list", "tuple"] (.list l) = true := rfl
@[simp] theorem x_is55 (b : Bool) (i : Int) (s : Str) (l : List D) (m : List (D × D)) : isiD ["list", "tuple"] (.tuple l) = true := rfl
@[simp] theorem x_is56 (b : Bool) (i : Int) (s : Str) (l : List D) (m : List (D × D)) : isiD ["list", "tuple"] (.dict m) = false := rfl
@[simp] theorem x_is57 (b : Bool) (i : Int) (s : Str) (l : List D) (m : List (D × D)) : isiD ["int", "str"] .none = false := rfl
@[simp] theorem x_is58 (b : Bool) (i : Int) (s : Str) (l : List D) (m : List (D × D)) : isiD ["int", "str"] (.bool b) = true := rfl
@[simp] theorem x_is59 (b : Bool) (i : Int) (s : Str) (l : List D) (m : List (D × D)) : isiD ["int", "str"] (.int i) = true := rfl
@[simp] theorem x_is60 (b : Bool) (i : Int) (s : Str) (l : List D) (m : List (D × D)) : isiD ["int", "str"] (.str s) = true := rfl
@[simp] theorem x_is61 (b : Bool) (i : Int) (s : Str) (l : List D) (m : List (D × D)) : isiD ["int", "str"] (.list l) = false := rfl
@[simp] theorem x_is62 (b : Bool) (i : Int) (s : Str) (l : List D) (m : List (D × D)) : isiD ["int", "str"] (.tuple l) = false := rfl
@[simp] theorem x_is63 (b : Bool) (i : Int) (s : Str) (l : List D) (m : List (D × D)) : isiD ["int", "str"] (.dict m) = false := rfl
@[simp] theorem x_is64 (b : Bool) (i : Int) (s : Str) (l : List D) (m : List (D × D)) : isiD ["str", "int"] .none = false := rfl
@[simp] theorem x_is65 (b : Bool) (i : Int) (s : Str) (l : List D) (m : List (D × D)) : isiD ["str", "int"] (.bool b) = true := rfl
@[simp] theorem x_is66 (b : Bool) (i : Int) (s : Str) (l : List D) (m : List (D × D)) : isiD ["str", "int"] (.int i) = true := rfl
@[simp] theorem x_is67 (b : Bool) (i : Int) (s : Str) (l : List D) (m : List (D × D)) : isiD ["str", "int"] (.str s) = true := rfl
@[simp] theorem x_is68 (b : Bool) (i : Int) (s : Str) (l : List D) (m : List (D × D)) : isiD ["str", "int"] (.list l) = false := rfl
@[simp] theorem x_is69 (b : Bool) (i : Int) (s : Str) (l : List D) (m : List (D × D)) : isiD ["str", "int"] (.tuple l) = false := rfl
@[simp] theorem x_is70 (b : Bool) (i : Int) (s : Str) (l : List D) (m : List (D × D)) : isiD ["str", "int"] (.dict m) = false := rfl
@[simp] theorem x_is71 (b : Bool) (i : Int) (s : Str) (l : List D) (m : List (D × D)) : isiD ["list", "dict"] .none = false := rfl
@[simp] theorem x_is72 (b : Bool) (i : Int) (s : Str) (l : List D) (m : List (D × D)) : isiD ["list", "dict"] (.bool b) = false := rfl
@[simp] theorem x_is73 (b : Bool) (i : Int) (s : Str) (l : List D) (m : List (D × D)) : isiD ["list", "dict"] (.int i) = false := rfl
@[simp] theorem x_is74 (b : Bool) (i : Int) (s : Str) (l : List D) (m : List (D × D)) : isiD ["list", "dict"] (.str s) = false := rfl
@[simp] theorem x_is75 (b : Bool) (i : Int) (s : Str) (l : List D) (m : List (D × D)) : isiD ["list", "dict"] (.list l) = true := rfl
@[simp] theorem x_is76 (b : Bool) (i : Int) (s : Str) (l : List D) (m : List (D × D)) : isiD ["list", "dict"] (.tuple l) = false := rfl
@[simp] theorem x_is77 (b : Bool) (i : Int) (s : Str) (l : List D) (m : List (D × D)) : isiD ["list", "dict"] (.dict m) = true := rfl
@[simp] theorem x_is78 (b : Bool) (i : Int) (s : Str) (l : List D) (m : List (D × D)) : isiD ["tuple", "list", "dict"] .none = false := rfl
@[simp] theorem x_is79 (b : Bool) (i : Int) (s : Str) (l : List D) (m : List (D × D)) : isiD ["tuple", "list", "dict"] (.bool b) = false := rfl
@[simp] theorem x_is80 (b : Bool) (i : Int) (s : Str) (l : List D) (m : List (D × D)) : isiD ["tuple", "list", "dict"] (.int i) = false := rfl
@[simp] theorem x_is81 (b : Bool) (i : Int) (s : Str) (l : List D) (m : List (D × D)) : isiD ["tuple", "list", "dict"] (.str s) = false := rfl
@[simp] theorem x_is82 (b : Bool) (i : Int) (s : Str) (l : List D) (m : List (D × D)) : isiD ["tuple", "list", "dict"] (.list l) = true := rfl
@[simp] theorem x_is83 (b : Bool) (i : Int) (s : Str) (l : List D) (m : List (D × D)) : isiD ["tuple", "list", "dict"] (.tuple l) = true := rfl
@[simp] theorem x_is84 (b : Bool) (i : Int) (s : Str) (l : List D) (m : List (D × D)) : isiD ["tuple", "list", "dict"] (.dict m) = true := rfl
@[simp] theorem x_is85 (b : Bool) (i : Int) (s : Str) (l : List D) (m : List (D × D)) : isiD ["bool", "int"] .none = false := rfl
@[simp] theorem x_is86 (b : Bool) (i : Int) (s : Str) (l : List D) (m : List (D × D)) : isiD ["bool", "int"] (.bool b) = true := rfl
@[simp] theorem x_is87 (b : Bool) (i : Int) (s : Str) (l : List D) (m : List (D × D)) : isiD ["bool", "int"] (.int i) = true := rfl
@[simp] theorem x_is88 (b : Bool) (i : Int) (s : Str) (l : List D) (m : List (D × D)) : isiD ["bool", "int"] (.str s) = false := rfl
@[simp] theorem x_is89 (b : Bool) (i : Int) (s : Str) (l : List D) (m : List (D × D)) : isiD ["bool", "int"] (.list l) = false := rfl
@[simp] theorem x_is90 (b : Bool) (i : Int) (s : Str) (l : List D) (m : List (D × D)) : isiD ["bool", "int"] (.tuple l) = false := rfl
@[simp] theorem x_is91 (b : Bool) (i : Int) (s : Str) (l : List D) (m : List (D × D)) : isiD ["bool", "int"] (.dict m) = false := rfl
@[simp] theorem x_is92 (b : Bool) (i : Int) (s : Str) (l : List D) (m : List (D × D)) : isiD ["bool", "str"] .none = false := rfl
@[simp] theorem x_is93 (b : Bool) (i : Int) (s : Str) (l : List D) (m : List (D × D)) : isiD ["bool", "str"] (.bool b) = true := rfl
@[simp] theorem x_is94 (b : Bool) (i : Int) (s : Str) (l : List D) (m : List (D × D)) : isiD ["bool", "str"] (.int i) = false := rfl
@[simp] theorem x_is95 (b : Bool) (i : Int) (s : Str) (l : List D) (m : List (D × D)) : isiD ["bool", "str"] (.str s) = true := rfl
@[simp] theorem x_is96 (b : Bool) (i : Int) (s : Str) (l : List D) (m : List (D × D)) : isiD ["bool", "str"] (.list l) = false := rfl
@[simp] theorem x_is97 (b : Bool) (i : Int) (s : Str) (l : List D) (m : List (D × D)) : isiD ["bool", "str"] (.tuple l) = false := rfl
@[simp] theorem x_is98 (b : Bool) (i : Int) (s : Str) (l : List D) (m : List (D × D)) : isiD ["bool", "str"] (.dict m) = false := rfl
@[simp] theorem x_is99 (b : Bool) (i : Int) (s : Str) (l : List D) (m : List (D × D)) : isiD ["int", "bool"] .none = false := rfl
@[simp] theorem x_is100 (b : Bool) (i : Int) (s : Str) (l : List D) (m : List (D × D)) : isiD ["int", "bool"] (.bool b) = true := rfl
@[simp] theorem x_is101 (b : Bool) (i : Int) (s : Str) (l : List D) (m : List (D × D)) : isiD ["int", "bool"] (.int i) = true := rfl
@[simp] theorem x_is102 (b : Bool) (i : Int) (s : Str) (l : List D) (m : List (D × D)) : isiD ["int", "bool"] (.str s) = false := rfl
@[simp] theorem x_is103 (b : Bool) (i : Int) (s : Str) (l : List D) (m : List (D × D)) : isiD ["int", "bool"] (.list l) = false := rfl
@[simp] theorem x_is104 (b : Bool) (i : Int) (s : Str) (l : List D) (m : List (D × D)) : isiD ["int", "bool"] (.tuple l) = false := rfl
@[simp] theorem x_is105 (b : Bool) (i : Int) (s : Str) (l : List D) (m : List (D × D)) : isiD ["int", "bool"] (.dict m) = false := rfl
@[simp] theorem x_is106 (b : Bool) (i : Int) (s : Str) (l : List D) (m : List (D × D)) : isiD ["list", "tuple", "dict"] .none = false := rfl
@[simp] theorem x_is107 (b : Bool) (i : Int) (s : Str) (l : List D) (m : List (D × D)) : isiD ["list", "tuple", "dict"] (.bool b) = false := rfl
@[simp] theorem x_is108 (b : Bool) (i : Int) (s : Str) (l : List D) (m : List (D × D)) : isiD ["list", "tuple", "dict"] (.int i) = false := rfl
@[simp] theorem x_is109 (b : Bool) (i : Int) (s : Str) (l : List D) (m : List (D × D)) : isiD ["list", "tuple", "dict"] (.str s) = false := rfl
@[simp] theorem x_is110 (b : Bool) (i : Int) (s : Str) (l : List D) (m : List (D × D)) : isiD ["list", "tuple", "dict"] (.list l) = true := rfl
@[simp] theorem x_is111 (b : Bool) (i : Int) (s : Str) (l : List D) (m : List (D × D)) : isiD ["list", "tuple", "dict"] (.tuple l) = true := rfl
@[simp] theorem x_is112 (b : Bool) (i : Int) (s : Str) (l : List D) (m : List (D × D)) : isiD ["list", "tuple", "dict"] (.dict m) = true := rfl
@[simp] theorem x_is113 (b : Bool) (i : Int) (s : Str) (l : List D) (m : List (D × D)) : isiD ["str", "tuple"] .none = false := rfl
@[simp] theorem x_is114 (b : Bool) (i : Int) (s : Str) (l : List D) (m : List (D × D)) : isiD ["str", "tuple"] (.bool b) = false := rfl
@[simp] theorem x_is115 (b : Bool) (i : Int) (s : Str) (l : List D) (m : List (D × D)) : isiD ["str", "tuple"] (.int i) = false := rfl
@[simp] theorem x_is116 (b : Bool) (i : Int) (s : Str) (l : List D) (m : List (D × D)) : isiD ["str", "tuple"] (.str s) = true := rfl
@[simp] theorem x_is117 (b : Bool) (i : Int) (s : Str) (l : List D) (m : List (D × D)) : isiD ["str", "tuple"] (.list l) = false := rfl
@[simp] theorem x_is118 (b : Bool) (i : Int) (s : Str) (l : List D) (m : List (D × D)) : isiD ["str", "tuple"] (.tuple l) = true := rfl
@[simp] theorem x_is119 (b : Bool) (i : Int) (s : Str) (l : List D) (m : List (D × D)) : isiD ["str", "tuple"] (.dict m) = false := rfl
@[simp] theorem x_is120 (b : Bool) (i : Int) (s : Str) (l : List D) (m : List (D × D)) : isiD ["tuple", "str"] .none = false := rfl
@[simp] theorem x_is121 (b : Bool) (i : Int) (s : Str) (l : List D) (m : List (D × D)) : isiD ["tuple", "str"] (.bool b) = false := rfl
@[simp] theorem x_is122 (b : Bool) (i : Int) (s : Str) (l : List D) (m : List (D × D)) : isiD ["tuple", "str"] (.int i) = false := rfl
@[simp] theorem x_is123 (b : Bool) (i : Int) (s : Str) (l : List D) (m : List (D × D)) : isiD ["tuple", "str"] (.str s) = true := rfl
@[simp] theorem x_is124 (b : Bool) (i : Int) (s : Str) (l : List D) (m : List (D × D)) : isiD ["tuple", "str"] (.list l) = false := rfl
@[simp] theorem x_is125 (b : Bool) (i : Int) (s : Str) (l : List D) (m : List (D × D)) : isiD ["tuple", "str"] (.tuple l) = true := rfl
@[simp] theorem x_is126 (b : Bool) (i : Int) (s : Str) (l : List D) (m : List (D × D)) : isiD ["tuple", "str"] (.dict m) = false := rfl
@[simp] theorem x_eqS (a b : Str) : eqD (.str a) (.str b) = some (.v (.bool (decide (a = b)))) := by
  unfold eqD
  rw [if_pos (show (okE (.str a) && okE (.str b)) = true from rfl)]
  first | rfl | (unfold bl PyData.eqv; rfl) | (unfold bl PyData.eqv; congr 3; exact Bool.eq_iff_iff.mpr (by simp))
@[simp] theorem x_neS (a b : Str) : neD (.str a) (.str b) = some (.v (.bool (!decide (a = b)))) := by rw [x_neq _ _ rfl, x_eqS]; rfl
@[simp] theorem x_eqNI (i : Int) : eqD .none (.int i) = some (.v (.bool false)) := rfl
@[simp] theorem x_eqIN (i : Int) : eqD (.int i) .none = some (.v (.bool false)) := rfl
theorem x_inT (x : D) (ys : List D) (h : okE x = true) (h2 : noDicts ys = true) : inD x (.tuple ys) = some (.v (.bool (ys.any fun y => PyData.eqv y x))) := by
  unfold inD
  cases x <;> simp_all [bl]
@[simp] theorem x_notIn (x y : D) : notInD x y = match inD x y with
  | some (.v (.bool b)) => bl (!b)
  | _ => none := rfl
@[simp] theorem x_bl (b : Bool) : bl b = some (.v (.bool b)) := rfl
theorem x_maxM (i j : Int) : maxD [.int i, .int j] = some (.v (.int (max i j))) := by
  rw [x_maxI]
  congr 3
  split <;> omega
theorem x_minM (i j : Int) : minD [.int i, .int j] = some (.v (.int (min i j))) := by
  rw [x_minI]
  congr 3
  split <;> omega
theorem cut_drop (xs : List D) (k : Nat) : cut xs (some (k : Int)) none = xs.drop k := by
  unfold cut
  rw [HT.sIx_none, HT.sIx_nat]
  by_cases h : k ≤ xs.length
  · rw [Nat.min_eq_left h, List.take_of_length_le (by rw [List.length_drop]; omega)]
  · rw [Nat.min_eq_right (by omega), List.drop_length, List.take_nil, List.drop_of_length_le (by omega)]
theorem cut_both (xs : List D) (a b : Nat) : cut xs (some (a : Int)) (some (b : Int)) = (xs.take b).drop a := by
  unfold cut
  rw [HT.sIx_nat, HT.sIx_nat, List.drop_take]
  by_cases h : a ≤ xs.length
  · rw [Nat.min_eq_left h, List.take_eq_take_iff, List.length_drop]
    omega
  · rw [show min a xs.length = xs.length by omega, List.drop_length, List.drop_of_length_le (show xs.length ≤ a by omega), List.take_nil, List.take_nil]
theorem cut_last (xs : List D) : cut xs none (some (-1)) = xs.dropLast := by
  unfold cut
  rw [HT.sIx_none, List.drop_zero, Nat.sub_zero, List.dropLast_eq_take]
  congr 1
  unfold HT.sIx
  simp
  omega
@[simp] theorem x_cutT0 (xs : List D) : cut xs none (some 0) = xs.take 0 := cut_take xs 0
@[simp] theorem x_cutD0 (xs : List D) : cut xs (some 0) none = xs.drop 0 := cut_drop xs 0
@[simp] theorem x_cutT1 (xs : List D) : cut xs none (some 1) = xs.take 1 := cut_take xs 1
@[simp] theorem x_cutD1 (xs : List D) : cut xs (some 1) none = xs.drop 1 := cut_drop xs 1
@[simp] theorem x_cutT2 (xs : List D) : cut xs none (some 2) = xs.take 2 := cut_take xs 2
@[simp] theorem x_cutD2 (xs : List D) : cut xs (some 2) none = xs.drop 2 := cut_drop xs 2
@[simp] theorem x_cutT3 (xs : List D) : cut xs none (some 3) = xs.take 3 := cut_take xs 3
@[simp] theorem x_cutD3 (xs : List D) : cut xs (some 3) none = xs.drop 3 := cut_drop xs 3
@[simp] theorem x_cutT4 (xs : List D) : cut xs none (some 4) = xs.take 4 := cut_take xs 4
@[simp] theorem x_cutD4 (xs : List D) : cut xs (some 4) none = xs.drop 4 := cut_drop xs 4
@[simp] theorem x_cutT5 (xs : List D) : cut xs none (some 5) = xs.take 5 := cut_take xs 5
@[simp] theorem x_cutD5 (xs : List D) : cut xs (some 5) none = xs.drop 5 := cut_drop xs 5
@[simp] theorem x_cutT6 (xs : List D) : cut xs none (some 6) = xs.take 6 := cut_take xs 6
@[simp] theorem x_cutD6 (xs : List D) : cut xs (some 6) none = xs.drop 6 := cut_drop xs 6
@[simp] theorem x_cutT7 (xs : List D) : cut xs none (some 7) = xs.take 7 := cut_take xs 7
@[simp] theorem x_cutD7 (xs : List D) : cut xs (some 7) none = xs.drop 7 := cut_drop xs 7
@[simp] theorem x_cutT8 (xs : List D) : cut xs none (some 8) = xs.take 8 := cut_take xs 8
@[simp] theorem x_cutD8 (xs : List D) : cut xs (some 8) none = xs.drop 8 := cut_drop xs 8
@[simp] theorem x_cutT9 (xs : List D) : cut xs none (some 9) = xs.take 9 := cut_take xs 9
@[simp] theorem x_cutD9 (xs : List D) : cut xs (some 9) none = xs.drop 9 := cut_drop xs 9
@[simp] theorem x_cutT10 (xs : List D) : cut xs none (some 10) = xs.take 10 := cut_take xs 10
@[simp] theorem x_cutD10 (xs : List D) : cut xs (some 10) none = xs.drop 10 := cut_drop xs 10
@[simp] theorem x_cutT11 (xs : List D) : cut xs none (some 11) = xs.take 11 := cut_take xs 11
@[simp] theorem x_cutD11 (xs : List D) : cut xs (some 11) none = xs.drop 11 := cut_drop xs 11
@[simp] theorem x_cutT12 (xs : List D) : cut xs none (some 12) = xs.take 12 := cut_take xs 12
@[simp] theorem x_cutD12 (xs : List D) : cut xs (some 12) none = xs.drop 12 := cut_drop xs 12
@[simp] theorem x_cutM (xs : List D) : cut xs none (some (-1)) = xs.dropLast := cut_last xs
@[simp] theorem x_addTs {xs ys : List D} (h : xs.length + ys.length ≤ 16777216) : addD (.tuple xs) (.tuple ys) = some (.v (.tuple (xs ++ ys))) := x_addT h
@[simp] theorem x_addLs {xs ys : List D} (h : xs.length + ys.length ≤ 16777216) : addD (.list xs) (.list ys) = some (.o (.list (xs ++ ys))) := x_addL h
@[simp] theorem x_szb {n : Nat} (h : n ≤ 16777216) : szb n = true := szb_of h
@[simp] theorem x_eqE (ds : List D) : eqD (.tuple ds) (.tuple []) = some (.v (.bool ds.isEmpty)) := by
  unfold eqD
  split
  · cases ds with
    | nil => rfl
    | cons d ds => show bl (PyData.eqv (.tuple (d :: ds)) (.tuple [])) = _; unfold PyData.eqv PyData.eqvAll; rfl
  · rfl
@[simp] theorem x_strI {i : Int} (h : i.natAbs.log2 < 1920) : strD [.int i] = some (.v (.str (toString i))) := if_pos (decide_eq_true h)
@[simp] theorem x_eqvS (a b : Str) : PyData.eqv (.str a) (.str b) = decide (a = b) := by
  rw [show PyData.eqv (.str a) (.str b) = (a == b) by unfold PyData.eqv; rfl]
  exact Bool.eq_iff_iff.mpr (by simp)
@[simp] theorem x_eApp (i : Nat) (f : ME) (ρ : Rho) : eApp i f ρ = match slot ρ i with
  | some (.list _) => (f ρ).bind fun r => match r.2[i]? with
    | some (some (.o (.list ds))) => if decide (ds.length < 16777216) then some (.v .none, r.2.set i (some (.o (.list (ds ++ [r.1.d]))))) else none
    | _ => none
  | _ => none := rfl
@[simp] theorem x_ePopAt (i : Nat) (f : ME) (ρ : Rho) : ePopAt i f ρ = match slot ρ i with
  | some (.list _) => (f ρ).bind fun r => (asI r.1).bind fun j => match r.2[i]? with
    | some (some (.o (.list ds))) => if in62 j then (seqIndex? j ds.length).bind fun k => ds[k]?.bind fun d => some (.v d, r.2.set i (some (.o (.list (ds.eraseIdx k))))) else none
    | _ => none
  | _ => none := rfl
theorem x_nodup2 {i j : Nat} (h : i ≠ j) : nodupN [i, j] = true := by
  simp [nodupN, h]
@[simp] theorem x_tupL (ds : List D) : tupleD [.list ds] = some (.v (.tuple ds)) := rfl
@[simp] theorem x_tupT (ds : List D) : tupleD [.tuple ds] = some (.v (.tuple ds)) := rfl
@[simp] theorem x_lstL (ds : List D) : listD [.list ds] = some (.o (.list ds)) := rfl
@[simp] theorem x_lstT (ds : List D) : listD [.tuple ds] = some (.o (.list ds)) := rfl
@[simp] theorem x_addS {a b : Str} (h : a.length + b.length ≤ 16777216) : addD (.str a) (.str b) = some (.v (.str (a ++ b))) := by
  show (if szb (a.length + b.length) then some (RV.v (.str (a ++ b))) else none) = _
  rw [szb_of h]; rfl
@[simp] theorem x_ePop (i : Nat) (ρ : Rho) : ePop i ρ = match ρ[i]? with
  | some (some (.o (.list ds))) => (lastD ds).bind fun d => some (.v d, ρ.set i (some (.o (.list ds.dropLast))))
  | _ => none := rfl
theorem lastD_add (ds : List D) (d : D) : lastD (ds ++ [d]) = some d := by
  unfold lastD
  simp
@[simp] theorem x_eGet2 (i : Nat) (fk fx : ME) (ρ : Rho) : eGet2 i fk fx ρ = match slot ρ i with
  | some (.dict _) => (fk ρ).bind fun r => (asV r.1).bind fun k => (fx r.2).bind fun s => match slot s.2 i with
    | some (.dict ds) => if isKD k then some (.v (getOr ds k s.1.d), s.2) else none
    | _ => none
  | _ => none := rfl
@[simp] theorem x_eGet1 (i : Nat) (fk : ME) (ρ : Rho) : eGet1 i fk ρ = match slot ρ i with
  | some (.dict _) => (fk ρ).bind fun r => (asV r.1).bind fun k => match slot r.2 i with
    | some (.dict ds) => if isKD k then some (.v (getOr ds k .none), r.2) else none
    | _ => none
  | _ => none := rfl
@[simp] theorem x_eIdx (i : Nat) (f : ME) (ρ : Rho) : eIdx i f ρ = match slot ρ i with
  | some (.list _) => (f ρ).bind fun r => (valV r.1).bind fun k => match slot r.2 i with
    | some (.list ds) => if okE k && okE (.list ds) then (fstEq ds k).bind fun j => some (.v (.int (j : Nat)), r.2) else none
    | _ => none
  | _ => none := rfl
@[simp] theorem x_valV (d : D) : valV (.v d) = some d := rfl
@[simp] theorem x_isKDs (s : Str) : isKD (.str s) = true := rfl
@[simp] theorem x_isKDi (i : Int) : isKD (.int i) = true := rfl
@[simp] theorem x_neB (a b : Bool) : neD (.bool a) (.bool b) = some (.v (.bool (!decide (a = b)))) := by cases a <;> cases b <;> rfl
@[simp] theorem x_eMt (g : D → List D → Option RV) (fo : MO) (fs : MOs) (ρ : Rho) : eMt g fo fs ρ = (fo ρ).bind fun r => (r.1.get r.2).bind fun x0 => (fs r.2).bind fun s => (r.1.get s.2).bind fun x => (getAll s.2 s.1).bind fun ys =>
  if tyD x0 = tyD x then (g x ys).bind fun z => some (z, s.2) else none := rfl
theorem x_lstD (ds : List (D × D)) : listD [.dict ds] = some (.o (.list (ds.map (·.1)))) := rfl
theorem x_lenDc (ds : List (D × D)) : lenD [.dict ds] = some (.v (.int ds.length)) := rfl
theorem x_setDc {ds : List (D × D)} {k x : D} (h : isKD k = true) (hl : ds.length < 16777216) : setD (.dict ds) k x = some (.dict (setK ds k x)) := by
  show (if isKD k && decide (ds.length < 16777216) then some (PyData.dict (setK ds k x)) else none) = _
  rw [h, decide_eq_true hl]; rfl
end Z
namespace Z
open PySem PySem.Spec L2
open PyProof.Rows hiding St
open PySem.W (Frag)

/-! ## the __init__ of an own error: super().__init__(), then self.FIELD = x -/
abbrev veB : List Value := [.type "ValueError", .type "Exception", .type "BaseException", .type "object"]
/-- what the def's text is -/
structure InitT (st : Stmt) (fld gv : Str) : Prop where
  body : ∃ p0 p1 p2 p3 p4 q0 q1 q2 q3, defBody st = [.Expr (.Call (.Attribute (.Call (.Name "super" p0) [] [] p1) "__init__" p2) [] [] p3) p4, .Assign [.Attribute (.Name "self" q0) fld q1] (.Name gv q2) q3] ∧ (p2.endLine == p3.line) = true
  kind : (defScope st).kind = .function
  co : (defScope st).isCoroutine = false
  gen : (defScope st).isGenerator = false
  sup : (defScope st).names.lookup ("super" : Str) = some .globalImplicit
  cls : (defScope st).names.lookup ("__class__" : Str) = some .free
  slf : (defScope st).names.lookup ("self" : Str) = some .local
  giv : (defScope st).names.lookup gv = some .local
  noc : ∀ y ∈ (defScope st).names, y.2 ≠ .cell
  onef : ∀ y ∈ (defScope st).names, y.2 = .free → y.1 = "__class__"
  par : ∃ ar, ((defArgs st).posonlyargs ++ (defArgs st).args).head? = some ar ∧ ar.arg = "self"
  ne : ("self" : Str) ≠ gv
  dbg : (gv == ("__debug__" : Str)) = false
  cdb : (gv == ("__classdict__" : Str)) = false
/-- what the written part says of the class and of its __init__ -/
structure InitK (P : Program) (K : Frag) (C fI cc cda : Addr) (qual : Str) (st : Stmt) (fld : Str) (fd : FuncData) : Prop where
  oex : OexC K C
  ei : PySem.W.excInitIn K C veB "ValueError.__new__" = true
  nof : PySem.W.findIn K (.ref C) fld = some none
  sup : PySem.W.ks_superIn K C C "__init__" = some (some (.builtin "ValueError.__init__"))
  subB : PySem.W.subIn K (.ref C) (.type "ValueError") = some true
  subC : PySem.W.mroIn K C (.ref C) = some true
  stat : PySem.W.nsIn K cStatics "thirdparty.any" = some none
  fn : ∃ oc od osl dV kV doc pm an ct, fd = PySem.W.ksFn "__init__" qual (defArgs st) (defBody st) (defScope st) dV kV doc pm an (.ref cda) ct cc ∧ K.lookup fI = some ⟨oc, od, .func fd, osl⟩
  code : PySem.W.codeIn K (.ref cda) qual = true
  file : ∃ cl d vs sl tf f, K.lookup cda = some ⟨cl, d, .fields vs, sl⟩ ∧ vs[2]? = some (.str f tf) ∧ ((P.main.file : Str) == f) = true
  cell : ∃ cl d sl, K.lookup cc = some ⟨cl, d, .cell (some (.ref C)), sl⟩
  top : (P.main.scope.names.lookup ("super" : Str)).isSome = false
def initSp (C : Addr) (fld : Str) : Sp := fun vs H Q E => ∃ a y, vs = [.ref a, y] ∧ H a = some (exo a C none) ∧ ∀ dx, H dx = none → dx ≠ a → Q .non (upd (upd H dx (exd dx [(fld, y)])) a (exo a C (some dx)))

theorem call_line {o : Expr} {m : Str} {p2 p3 : Pos} {env : Env} (hline : (p2.endLine == p3.line) = true) : eval (.Call (.Attribute o m p2) [] [] p3) env = (do
      let ov ← attributeBase o m env (eval o env)
      standAt p2.atName
      let (f, first) ← holding [ov] (getMethod ov m (do return (← importBound o env).getD true))
      callWith p3 f first (backTo p3 (starEach [] env)) []) := by
  have e : ∀ ov, methodCall o m p2 p3 env ov 0 [] [] = (do
      let (f, first) ← holding [ov] (getMethod ov m (do return (← importBound o env).getD true))
      callWith p3 f first [] []) := fun ov => by
    have e1 : methodCallForm 0 [] [] = true := by rfl
    unfold methodCall
    rw [e1]
    have e2 : methodCallPos true o env p2 p3 = pure p3 := by
      unfold methodCallPos
      rw [hline]; rfl
    rw [e2]
    rfl
  show (do
    let ov ← attributeBase o m env (eval o env)
    standAt p2.atName
    methodCall o m p2 p3 env ov 0 [] []) = _
  simp only [e]
  rfl
/-- the built-in __init__, bound to the error that is being made, is called -/
theorem mw_ok {X : Cx} {pins : List (Addr × Obj)} {σ : L2.St} {H : Hp} {s : Shared} {a C u : Addr} {A : Around} {E : Value → Shared → Prop} {Q : Value → Shared → Prop} (T : OexC X.K C) (I : Inv X pins σ H s) (e : H a = some (exo a C none))
    (hu : s.heap.get? u = some (PySem.W.kxs_mw "ValueError.__init__" a)) (h : ∀ s', Inv X pins σ H s' → Q .none s') : wpAny (model X.prog X.w) A (call (.ref u) []) Q E s := by
  obtain ⟨nm, qc, Nn, bs, bm, sn, sub, ab, col, dd, k0, k1, k2, k3, k5, hC, hbm⟩ := T.cls
  obtain ⟨t1, ho⟩ := exo_at I.hok e
  have hC' := I.kIn _ _ hC
  obtain ⟨hp, g, d, t, os⟩ := s
  have FB := PySem.F.excBase_ValueError
  refine wpAny_call (codeAny_of_tree ?_)
  show wpAny _ _ (callAny (.ref u) ⟨[], []⟩) _ _ _
  unfold callAny
  refine wpAny_bind (wpAny_load hu ?_)
  dsimp only
  refine PySem.W.KFB.if_so (by decide) ?_
  refine wpAny_bind (PySem.W.check_bound_init FB.toExcCallFacts hC' ho rfl ?_)
  refine wpAny_bind (wpAny_pure (wpAny_pure ⟨plainId_quiet FB.init.plain _, codeAny_builtin FB.initEntry ?_⟩))
  refine PySem.W.exc_init_tree (cls := .ref C) (t0 := t1) (dv := none) (c2 := .none) (c3 := .none) (b4 := .bool false) ho (by rw [sizeLine_eq]; simp) fun h' k hx _ => ?_
  have J := I.write (t' := t) (x := a) (e := a) (o := exo a C none) (by rw [e]; exact True.intro) (.inl rfl) k ⟨_, hx⟩ (exo_ok hx)
  have eu : upd H a (exo a C none) = H := by
    funext b
    by_cases hb : b = a
    · rw [hb, upd_same, e]
    · rw [upd_ne hb]
  rw [eu] at J
  exact h _ J
section
variable {P : Program} {w : World} {K : Frag} {mg : Str → Option Value} {base : Heap} {k : Nat} {C fI cc cda : Addr} {qual fld gv : Str} {st : Stmt} {fd : FuncData}
/-- the context of its body -/
def cxI (P : Program) (w : World) (K : Frag) (mg : Str → Option Value) (base : Heap) (gv : Str) (fd : FuncData) (fI : Addr) (A : Around) (outer : List Env) (s : Shared) (H : Hp) : Cx where
  prog := P
  w := w
  K := K
  mg := mg
  base := base
  A := A.deeper (callEnv fd s.heap.objs.size fI)
  N := ["self", gv]
  s_0 := s
  H_0 := H
  env := callEnv fd s.heap.objs.size fI
  outer := outer
  stack := callEnv fd s.heap.objs.size fI :: outer
  ex := []
  calm := true
  fn := fun x => !(x == ("__class__" : Str))
  pn := []
  xe := fun _ _ => False
theorem look1 {cc c : Addr} {x : Str} (h : [(("__class__" : Str), cc)].lookup x = some c) : x = "__class__" ∧ c = cc := by
  simp only [List.lookup] at h
  split at h
  · rename_i e; cases h; exact ⟨by simpa using e, rfl⟩
  · cases h
theorem init_fn (T : InitT st fld gv) (F : InitK P K C fI cc cda qual st fld fd) (hsup : mg "super" = none) : FnOk P w K mg base CX0 (k + 1) fI fd ["self", gv] (initSp C fld) := by
  obtain ⟨oc, od, osl, dV, kV, doc, pm, an, ct, hfd, lk⟩ := F.fn
  obtain ⟨ccl, ccd, vs2, csl, tf, fl, hcode, hvs, hfile⟩ := F.file
  obtain ⟨ecl, ecd, esl, hcell⟩ := F.cell
  obtain ⟨p0, p1, p2, p3, p4, q0, q1, q2, q3, hbody, hline⟩ := T.body
  obtain ⟨ar, har, hself⟩ := T.par
  refine ⟨fun vs H Q E h => ?_, fun A outer s H args us vs Q E hr e0 hb r hsp => ?_⟩
  · obtain ⟨a, y, rfl, _⟩ := h
    rfl
  obtain ⟨a, y, rfl, ha, hq⟩ := hsp
  cases r with
  | @cons _ u0 _ ur r1 r' =>
  cases r' with
  | @cons _ u _ ur2 r2 r'' =>
  cases r''
  obtain rfl : u0 = Value.ref a := r1
  have KX : K.In s.heap := e0.mod.kin.keeps fun b o e => (e0.bs b o e).1
  have lim : s.heap.NoLimit := e0.mod.nolimit.keeps fun b o e => (e0.bs b o e).1
  subst hfd
  generalize hfd : PySem.W.ksFn "__init__" qual (defArgs st) (defBody st) (defScope st) dV kV doc pm an (.ref cda) ct cc = fd at *
  have fsc : fd.scope = defScope st := by rw [← hfd]
  have fcl : fd.closure = [(("__class__" : Str), cc)] := by rw [← hfd]
  have fbo : fd.body = .stmts (defBody st) := by rw [← hfd]
  have fpa : fd.params = defArgs st := by rw [← hfd]
  have fco : fd.code = .ref cda := by rw [← hfd]
  have fqu : fd.qualname = qual := by rw [← hfd]
  have fgl : fd.globals = mainGlobals := by rw [← hfd]
  have fbl : fd.builtins = builtinsNs := by rw [← hfd]
  clear hfd
  refine PySem.ks_codeAny_call_defAt (fd := fd) (body := defBody st) (binds := [("self", .ref a), (gv, u)]) hr.depth (KX _ _ lk) rfl lim (by rw [fco, fqu]; exact PySem.W.codeRec_of KX F.code) fbo hb (by rw [fsc]; exact T.noc) ?_ (fun h0 hns hk => ?_) (by rw [fsc]; exact T.co) (by rw [fsc]; exact T.gen) (by rw [fsc]; exact T.kind)
  · intro x hx
    rw [fsc]
    simp only [List.mem_cons, List.not_mem_nil, or_false] at hx
    rcases hx with rfl | rfl
    · exact T.slf
    · exact T.giv
  have S : ∀ x, (callEnv fd s.heap.objs.size fI).kindOf x = (defScope st).names.lookup x := fun x => by
    show fd.scope.names.lookup x = _
    rw [fsc]
  have cl : (callEnv fd s.heap.objs.size fI).cells = [(("__class__" : Str), cc)] := fcl
  have nC : H cc = none := (e0.bs cc _ (e0.mod.kin _ _ hcell)).2
  have nsH : H s.heap.objs.size = none := e0.hok.fresh (Nat.le_refl _)
  have I : Inv (cxI P w K mg base gv fd fI A outer s H) [] [some (.ref a), some y] H { s with heap := h0, toks := s.toks + 2 } := by
    refine ⟨⟨e0.mod, by show fd.scope.kind = _; rw [fsc]; exact T.kind, fgl, fbl, Nat.le_refl _, fun x z c h1 h2 => ?_, fun x hx => ?_, fun x c h1 h2 => ?_, fun _ => hr.hd, Around.frames_deeper e0.frames, .inr ⟨rfl, rfl⟩, fun b z => absurd z (by show b ∉ ([] : List Addr); simp), e0.bs, e0.bsz, fun b _ _ => by show b ∉ ([] : List Addr); simp, fun b z => absurd z (by show b ∉ ([] : List Addr); simp), e0.funs, e0.frf⟩,
      rfl, e0.bare, Un.kept hk, ⟨_, hns, fun i x v h1 h2 h3 => ?_⟩, fun x c h => ?_, nsH, fun x c h => ?_, fun p hp => absurd (show p ∈ ([] : List (Addr × Obj)) from hp) (by simp), e0.hok.kept hk, rfl⟩
    · rw [show (cxI P w K mg base gv fd fI A outer s H).env.cells = _ from cl] at h1 h2
      exact (look1 h1).1.trans (look1 h2).1.symm
    · have hx : (callEnv fd s.heap.objs.size fI).kindOf x = some .cell ∨ (callEnv fd s.heap.objs.size fI).kindOf x = some .free := hx
      rw [S] at hx
      rcases hx with hx | hx
      · exact absurd rfl (T.noc _ (PySem.mem_of_lookup hx))
      · have e := T.onef _ (PySem.mem_of_lookup hx) rfl
        have e : x = "__class__" := e
        subst e
        exact ⟨cc, by rw [show (cxI P w K mg base gv fd fI A outer s H).env.cells = _ from cl]; rfl⟩
    · rw [show (cxI P w K mg base gv fd fI A outer s H).env.cells = _ from cl] at h2
      rw [(look1 h2).1] at h1
      cases h1
    · have hx : x = "self" ∧ v = .ref a ∨ x = gv ∧ v = y := by
        match i with
        | 0 =>
          cases h1; cases h2; exact .inl ⟨rfl, rfl⟩
        | 1 =>
          cases h1; cases h2; exact .inr ⟨rfl, rfl⟩
        | i + 2 => cases h1
      rcases hx with ⟨e1, e2⟩ | ⟨e1, e2⟩
      · subst e1 e2
        refine ⟨.ref a, rfl, .inl ⟨(S _).trans T.slf, ?_⟩⟩
        show List.lookup ("self" : Str) [(gv, u), (("self" : Str), Value.ref a)] = _
        have e : (("self" : Str) == gv) = false := by simpa using T.ne
        simp [List.lookup, e]
      · subst e1 e2
        refine ⟨u, r2, .inl ⟨(S _).trans T.giv, ?_⟩⟩
        show List.lookup x [(x, u), (("self" : Str), Value.ref a)] = _
        simp [List.lookup]
    · rw [show (cxI P w K mg base gv fd fI A outer s H).env.cells = _ from cl] at h
      rw [(look1 h).2]
      exact ⟨_, _, hk _ _ (KX _ _ hcell), rfl⟩
    · rw [show (cxI P w K mg base gv fd fI A outer s H).env.cells = _ from cl] at h
      rw [(look1 h).2]
      exact nC
  obtain ⟨nm, qc, Nn, bs, bm, sn, sub, ab, col, dd, k0, k1, k2, k3, k5, hC, hbm⟩ := F.oex.cls
  obtain ⟨t1, hox⟩ := exo_at I.hok ha
  have hCh : h0.get? C = some _ := hk _ _ (KX _ _ hC)
  have X0 : K.In h0 := fun b o e => hk b o (KX b o e)
  have hxC : a ≠ C := fun e => by
    rw [e, hCh] at hox
    cases hox
  obtain ⟨cdC, hcd1, hcd2⟩ : ∃ cd : ClassData, PySem.W.clsIn K C = some cd ∧ (excClassObj nm qc C Nn bs bm true sn sub ab col dd k0 k1 k2 k3 k5 "ValueError.__new__").data = .cls cd := ⟨_, by unfold PySem.W.clsIn; rw [hC], rfl⟩
  rw [hbody]
  refine PySem.ks_wpAt_execs_cons (PySem.ks_wpAt_Expr_any (PySem.ks_wpAt_MethodCall (PySem.ks_wpAt_super_base (env := callEnv fd s.heap.objs.size fI) ((S _).trans T.sup) ((S _).trans T.cls) (by decide) rfl (hk _ _ (KX _ _ lk)) rfl (by rw [fpa]; exact har) fco (hk _ _ (KX _ _ hcode)) rfl hvs hfile F.top ?_) (call_line hline)) (by unfold interactive; rw [show (callEnv fd s.heap.objs.size fI).scope = defScope st from fsc, T.kind]; rfl))
  obtain ⟨mb, hmb1, hmb2⟩ := e0.mod.blt
  have bk : ∀ b o, base.get? b = some o → h0.get? b = some o := fun b o e => hk b o (e0.bs b o e).1
  refine PySem.W.ks_loadName_global (by show fd.scope.kind = _; rw [fsc]; exact T.kind) ((S _).trans T.sup) (Calls.loadGlobal_builtin (v := .type "super") (by rw [show (callEnv fd s.heap.objs.size fI).globals = mainGlobals from fgl]; exact e0.mod.glob.keeps bk) hsup (by rw [show (callEnv fd s.heap.objs.size fI).builtins = builtinsNs from fbl]; exact hmb1.keeps bk) ((hmb2 _ (by decide)).trans (by decide +kernel)) ⟨rfl, ?_⟩)
  refine wpAny_loadName_free (by show fd.scope.kind = _; rw [fsc]; exact T.kind) ((S _).trans T.cls) (by rw [cl]; rfl) ⟨_, hk _ _ (KX _ _ hcell), rfl⟩ ?_
  refine wpAny_loadName_local (v := .ref a) (by show fd.scope.kind = _; rw [fsc]; exact T.kind) (by rw [hself]; exact (S _).trans T.slf) hns ?_ ?_
  · rw [hself]
    show List.lookup ("self" : Str) [(gv, u), (("self" : Str), Value.ref a)] = _
    have e : (("self" : Str) == gv) = false := by simpa using T.ne
    simp [List.lookup, e]
  refine PySem.ks_wpAny_isType_cls hCh hcd2 ⟨rfl, ?_⟩
  refine PySem.ks_wpAny_call_super hCh hcd2 hox rfl (fun c e => by cases e) (PySem.W.looks_mroIn X0 F.subC) (fun h1 e1 k1 => ?_)
  have X1 : K.In h1 := fun b o e => k1 b o (X0 b o e)
  have hI1 : PySem.W.Looks (model P w) h1 (isInstance (.ref a) (.type "ValueError")) true := PySem.W.Looks.andThen (a := Value.ref C) (fun A Q E s k q => wpAny_typeOf_ref (k _ _ (k1 _ _ hox)) q) (PySem.W.looks_subIn X1 F.subB)
  have hmro : PySem.W.Looks (model P w) h1 (mroOf (.ref C)) cdC.mro := fun A Q E s k q => wpAny_bind ((PySem.W.looks_clsIn X1 hcd1) A _ E s k (wpAny_pure q))
  have hsu := F.sup
  unfold PySem.W.ks_superIn at hsu
  rw [hcd1] at hsu
  refine PySem.W.kxs_getMethod PySem.W.kxs_ValueError e1 (PySem.W.looks_opaque X1 F.stat) hmro rfl X1 hsu hI1 hxC (by decide) ?_
  have hu : (h1.push (PySem.W.kxs_mw "ValueError.__init__" a)).get? h1.objs.size = some (PySem.W.kxs_mw "ValueError.__init__" a) := Heap.get?_push_size h1 rfl
  have k2 : ∀ b o, h1.get? b = some o → (h1.push (PySem.W.kxs_mw "ValueError.__init__" a)).get? b = some o := fun b o e => Heap.get?_push_of_some _ e
  have ne1 : h1.objs.size ≠ a := fun z => absurd (Heap.lt_size (k1 _ _ hox)) (by rw [z]; exact Nat.lt_irrefl _)
  refine PySem.W.kxs_callWith (i := "ValueError.__init__") (x := a) rfl (evalArgs_empty ⟨hu, ?_⟩)
  have I1 := I.kept (h' := h1.push (PySem.W.kxs_mw "ValueError.__init__" a)) (t' := s.toks + 2 + 1) fun b o e => k2 _ _ (k1 b o e)
  refine mw_ok F.oex I1 ha hu fun s' J => ?_
  have hself' : PE (cxI P w K mg base gv fd fI A outer s H) (.Name "self" q0) (tVar 0) := pe_var (X := cxI P w K mg base gv fd fI A outer s H) rfl (.inl ((S _).trans T.slf))
  have hgv' : PE (cxI P w K mg base gv fd fI A outer s H) (.Name gv q2) (tVar 1) := pe_var (X := cxI P w K mg base gv fd fI A outer s H) rfl (.inl ((S _).trans T.giv)) T.dbg T.cdb
  have hst := pss_cons (ps_ost (p' := q1) (f := fld) (pos := q3) hself' hgv') (pss_nil (X := cxI P w K mg base gv fd fI A outer s H))
  refine wpAt_of_wpAny (wpAny_mono (hst.run [] s' _ H ⟨fun σ' H' => Q .non H', fun _ _ => False, fun _ _ => False, fun _ _ => False⟩ J ?_) (fun fl s2 hs => ?_) fun _ _ z => z.elim)
  · exact ⟨y, rfl, .ref a, rfl, a, C, rfl, F.oex, F.nof, .inl ⟨ha, fun dx n ne => hq dx n ne⟩⟩
  · cases fl with
    | next =>
      obtain ⟨σ2, H2, J2, q⟩ := hs
      exact ⟨.non, H2, J2.os, J2.bare, J2.base, J2.hok, rfl, q⟩
    | brk =>
      obtain ⟨_, _, _, q⟩ := hs
      exact q.elim
    | cont =>
      obtain ⟨_, _, _, q⟩ := hs
      exact q.elim
    | ret u =>
      obtain ⟨_, _, _, _, _, q⟩ := hs
      exact q.elim
end
end Z
namespace Z
open PySem PySem.Spec L2
open PyProof.Rows hiding St

/-! ## try: .., where the first clause (with a name) takes what is raised; the further clauses are never looked at -/
/-- what is wanted of an error that the body lets out -/
def wOne (K : PySem.W.Frag) (c : Value) (i : Nat) (ts : Addr → Value → Option Addr → TS) (D : Ends) : WX := fun cls d σ H => PySem.W.exmOne K cls c = some true ∧
  ∀ a, H a = none → ts a cls d ⟨fun σ' H' => D.nx (σ'.set i none) H', D.rt, fun σ' H' => D.bk (σ'.set i none) H', fun σ' H' => D.ct (σ'.set i none) H'⟩ (σ.set i (some (.ref a))) H
section
variable {X : Cx} {x n : Str} {c : Value} {i : Nat} {body rest : List Stmt} {st0 : Stmt} {more : List ExceptHandler} {q1 q2 q3 : Pos} {tb : WX → TS} {ts : Addr → Value → Option Addr → TS} {pins : List (Addr × Obj)} {σ : L2.St} {H : Hp} {s : Shared} {D : Ends}
theorem sp_same {pn : List (Addr × Obj)} {xe : Value → Shared → Prop} {pp : List (Addr × Obj)} {fl : Flow} (ok : X.Ok) (h : SP (X.tr (X.pn ++ pins) xe) pp D fl s) : SP X pins D fl s := by
  cases fl with
  | ret u => exact let ⟨v, σ1, H1, J, r, q⟩ := h; ⟨v, σ1, H1, J.ofTry ok, r, q⟩
  | next => exact let ⟨σ1, H1, J, q⟩ := h; ⟨σ1, H1, J.ofTry ok, q⟩
  | brk => exact let ⟨σ1, H1, J, q⟩ := h; ⟨σ1, H1, J.ofTry ok, q⟩
  | cont => exact let ⟨σ1, H1, J, q⟩ := h; ⟨σ1, H1, J.ofTry ok, q⟩
/-- the suite's end: the name goes -/
theorem sp_gone {a : Addr} {o : Obj} {fl : Flow} {pos : Pos} {E : Value → Shared → Prop} (ok : X.Ok) (hN : X.N.Nodup) (hi : X.N[i]? = some n) (hl : X.env.kindOf n = some .local)
    (h : SP (X.suite a ((a, o) :: (X.pn ++ pins))) [] ⟨fun σ' H' => D.nx (σ'.set i none) H', D.rt, fun σ' H' => D.bk (σ'.set i none) H', fun σ' H' => D.ct (σ'.set i none) H'⟩ fl s) :
    wpAny (model X.prog X.w) X.A (do bindName X.env n .none; unbindBehindTheSuite X.env n pos) (fun _ s7 => SP X pins D fl s7) E s := by
  cases fl with
  | ret u => exact let ⟨v, σ1, H1, J, r, q⟩ := h; gone_ok (J.unsuite ok) hN hi hl fun s7 J7 => ⟨v, _, H1, J7, r, q⟩
  | next => exact let ⟨σ1, H1, J, q⟩ := h; gone_ok (J.unsuite ok) hN hi hl fun s7 J7 => ⟨_, H1, J7, q⟩
  | brk => exact let ⟨σ1, H1, J, q⟩ := h; gone_ok (J.unsuite ok) hN hi hl fun s7 J7 => ⟨_, H1, J7, q⟩
  | cont => exact let ⟨σ1, H1, J, q⟩ := h; gone_ok (J.unsuite ok) hN hi hl fun s7 J7 => ⟨_, H1, J7, q⟩
theorem ps_try1 (hs : X.stack = X.env :: X.outer) (hf : X.env.frame = some X.env.locals) (hN : X.N.Nodup) (hi : X.N[i]? = some n) (hl : X.env.kindOf n = some .local) (hc : Names X x c)
    (hb : ∀ (W : WX) (pn : List (Addr × Obj)) (xe : Value → Shared → Prop), Takes (X.tr pn xe) W → PassesOwn (model X.prog X.w) X.A X.env xe → PSs (X.tr pn xe) body (tb W))
    (hu : ∀ (a : Addr) (o : Obj) (cls : Value) (d : Option Addr) (pn : List (Addr × Obj)), Zc cls d o → (∃ vs, o.data = .fields vs) → PSs (X.suite a ((a, o) :: pn)) (st0 :: rest) (ts a cls d)) :
    PS X (.Try body (.ExceptHandler (some (.Name x q1)) (some n) (st0 :: rest) q2 :: more) [] [] q3) (fun D σ H => tb (wOne X.K c i ts D) D σ H) := by
  refine ⟨fun pins s σ H D I hq => wpAny_Try_except ?_⟩
  have ok := I.ok
  have frames : X.A.frames = some (X.env :: X.outer) := ok.frames.trans (congrArg some hs)
  have run := (hb (wOne X.K c i ts D) (X.pn ++ pins) (fun e s1 => wpAny (model X.prog X.w) X.A (noteFrame e X.env) (fun _ s2 => wpAny (model X.prog X.w) X.A (setFlight e none) (fun _ s3 =>
      wpAny (model X.prog X.w) X.A (handleBy e X.env (.ExceptHandler (some (.Name x q1)) (some n) (st0 :: rest) q2 :: more)) (SP X pins D) X.xe s3) X.xe s2) X.xe s1) ?take PassesOwn.looking).run [] s σ H D (I.toTry _) hq
  case take =>
    rintro u s' ⟨a, B, sI, pp, σ', H', cls, d, rfl, J0, hB, up0, sky, na, hos, hbare, wx, wy⟩
    have J := J0.ofTry ok
    have sky2 : Sky B (X.env :: X.outer) a (Zc cls d) X.env.locals s'.heap := by rw [← hs]; exact sky
    show wpAny (model X.prog X.w) X.A (noteFrame (.ref a) X.env) _ _ _
    refine Sky.land Zc.steady frames hf sky2 fun hp fly up1 => ?_
    have J1 : Inv X pins σ' H' { s' with heap := hp } := J.landed hB fly.1 (up0.trans up1) hos hbare
    obtain ⟨o1, fs1, ho1, hz1, hd1⟩ := fly.there
    have away : ∀ b ∈ frs (X.env :: X.outer), b ≠ a := fun b hb e => by
      obtain ⟨_, o', e', hnf⟩ := fly.2.2.1.mem hb
      rw [e, ho1] at e'
      cases e'
      exact hnf _ hd1
    have nL : a ≠ X.env.locals := fun e => away X.env.locals (List.mem_filterMap.mpr ⟨X.env, List.mem_cons_self, hf⟩) e.symm
    have nF : a ∉ X.fs := fun hm => away a (by
      obtain ⟨v, hv, q⟩ := List.mem_filterMap.mp hm
      exact List.mem_filterMap.mpr ⟨v, List.mem_cons_of_mem _ hv, q⟩) rfl
    have S1 := J1.suite ho1 hd1 na nL nF
    refine wpAny_handleBy_cons (codeAny_handlers_test ?_) (by intro q; cases q)
    have lookT : PySem.W.Looks (model X.prog X.w) hp (typeOf (.ref a)) cls := fun _ _ _ _ k q => wpAny_typeOf_ref (k _ _ ho1) (hz1.1 ▸ q)
    have lookM := PySem.W.exm_one (M := model X.prog X.w) (J1.kIn) lookT wx
    have named : ∀ {Q E : Value → Shared → Prop}, Q c { s' with heap := hp } → wpAny (model X.prog X.w) (X.A.mark (some (.ref a))) (eval (.Name x q1) X.env) Q E { s' with heap := hp } := fun {Q E} q => by
      obtain ⟨g1, g2, g3⟩ := hc
      cases g3 with
      | inl m1 => exact ld_glob (X := X.suite a ((a, o1) :: (X.pn ++ pins))) S1 g1 m1 q g2
      | inr m1 => exact ld_blt (X := X.suite a ((a, o1) :: (X.pn ++ pins))) S1 g1 m1.1 m1.2.1 q m1.2.2 g2
    refine named (lookM.here (codeAny_handlers_suite_as ?_))
    refine HandSPX.lands_againZ fly fun hp2 fly2 up2 => ?_
    have J2 : Inv X pins σ' H' { s' with heap := hp2 } := J.landed hB fly2.1 ((up0.trans up1).trans up2) hos hbare
    obtain ⟨o2, fs2, ho2, hz2, hd2⟩ := fly2.there
    have S2 := J2.suite ho2 hd2 na nL nF
    refine store_ok (X := X.suite a ((a, o2) :: (X.pn ++ pins))) (v := .ref a) S2 hN hi (.inl hl) rfl (fun s5 S5 => ?_) (.inr hl)
    exact wpAny_mono ((hu a o2 cls d (X.pn ++ pins) hz2 ⟨_, hd2⟩).run [] s5 _ H' _ S5 (wy a na)) (fun fl s6 h6 => sp_gone ok hN hi hl h6) fun _ _ z => z.elim
  refine wpAny_mono run (fun fl s1 h1 => ?_) fun _ _ z => z
  have h2 := sp_same (pn := []) ok h1
  cases fl with
  | next => exact wpAny_execs_nil h2
  | _ => exact h2
end
end Z
namespace Z
open PySem PySem.Spec L2
open PyProof.Rows hiding St

/-! ## evaluator functions that may end in an error -/
structure Exn where
  cls : Str
  fld : Str
  val : D
abbrev MX := Rho → Option ((D ⊕ Exn) × Rho)
abbrev SX := Rho → Option ((Out ⊕ Exn) × Rho)
/-- how a heap shows an error -/
def ExcAt (K : PySem.W.Frag) (mg : Str → Option Value) (H : Hp) (O : AS) (e : Exn) (cls : Value) (d : Option Addr) : Prop :=
  ∃ (C a : Addr) (z : V), mg e.cls = some (.ref C) ∧ cls = .ref C ∧ d = some a ∧ H a = some (.xd [(e.fld, z)]) ∧ Rep K H O e.val z
theorem ExcAt.mono {K : PySem.W.Frag} {mg : Str → Option Value} {H H' : Hp} {O O' : AS} {e : Exn} {cls : Value} {d : Option Addr} (k : Keeps H O H' O') (h : ExcAt K mg H O e cls d) (hd : ∀ a o, d = some a → H a = some o → H' a = some o) : ExcAt K mg H' O' e cls d := by
  obtain ⟨C, a, z, h1, h2, h3, h4, h5⟩ := h
  exact ⟨C, a, z, h1, h2, h3, hd a _ h3 h4, h5.mono k⟩
def EndX (mg : Str → Option Value) (W : WX) (c : Cn) (E : AS) (ρ : Rho) (σ : L2.St) (H : Hp) (ρ' : Rho) (out : D ⊕ Exn) (Q : VK) : Prop :=
  match out with
  | .inl d => ∀ z H', PostV c E ρ σ H ρ' H' d z → Q z H'
  | .inr e => ∀ cls a H', PostN c E ρ σ H ρ' σ H' → ExcAt c.K mg H' (OE ρ' σ E) e cls a → W cls a σ H'
def tX (X : Cx) (W : WX) (f : MX) : TE := fun σ H Q => ∃ c E ρ out ρ', c.K = X.K ∧ R c E ρ σ H ∧ f ρ = some (out, ρ') ∧ EndX X.mg W c E ρ σ H ρ' out Q
def EndXS (mg : Str → Option Value) (W : WX) (c : Cn) (E : AS) (ρ : Rho) (σ : L2.St) (H : Hp) (ρ' : Rho) (out : Out ⊕ Exn) (Dd : Ends) : Prop :=
  match out with
  | .inl o => EndS c E ρ σ H ρ' o Dd
  | .inr e => ∀ cls a σ' H', PostN c E ρ σ H ρ' σ' H' → ExcAt c.K mg H' (OE ρ' σ' E) e cls a → W cls a σ' H'
def tXS (X : Cx) (W : WX) (pr : List Nat) (s : SX) : TS := fun Dd σ H => ∃ c E ρ out ρ', c.K = X.K ∧ c.pr = pr ∧ R c E ρ σ H ∧ s ρ = some (out, ρ') ∧ EndXS X.mg W c E ρ σ H ρ' out Dd

def xN (f : ME) : MX := fun ρ => (f ρ).bind fun r => some (.inl r.1.d, r.2)
def xIf (t : MB) (f g : MX) : MX := fun ρ => (t ρ).bind fun r => if r.1 then f r.2 else g r.2
/-- a pair whose second part may end in an error -/
def xTup2 (a : ME) (f : MX) : MX := fun ρ => (a ρ).bind fun r => (f r.2).bind fun s => match s.1 with
  | .inl d => some (.inl (.tuple [r.1.d, d]), s.2)
  | .inr e => some (.inr e, s.2)
def sxN (s : SS) : SX := fun ρ => (s ρ).bind fun r => some (.inl r.1, r.2)
def sxSeq (s t : SX) : SX := fun ρ => (s ρ).bind fun r => match r.1 with
  | .inl .nx => t r.2
  | o => some (o, r.2)
def sxIf (t : MB) (a b : SX) : SX := fun ρ => (t ρ).bind fun r => if r.1 then a r.2 else b r.2
def sxRet (f : MX) : SX := fun ρ => (f ρ).bind fun r => match r.1 with
  | .inl d => some (.inl (.rt (.v d)), r.2)
  | .inr e => some (.inr e, r.2)
def sxDrop (f : MX) : SX := fun ρ => (f ρ).bind fun r => match r.1 with
  | .inl _ => some (.inl .nx, r.2)
  | .inr e => some (.inr e, r.2)
def sxRaise (cn fl : Str) (f : ME) : SX := fun ρ => (f ρ).bind fun r => some (.inr ⟨cn, fl, r.1.d⟩, r.2)

section
variable {X : Cx} {W : WX} {pr : List Nat} {a b e t : Expr} {es : List Expr} {f : ME} {g h : MX} {bt : MB} {s : SS} {sx tx : SX} {st : Stmt} {sts as bs : List Stmt} {pos : Pos}
theorem EndX.from {mg : Str → Option Value} {c : Cn} {E : AS} {ρ ρ1 ρ' : Rho} {σ : L2.St} {H H1 : Hp} {out : D ⊕ Exn} {Q : VK} (p : Stp ρ σ H ρ1 σ H1) (q : EndX mg W c E ρ σ H ρ' out Q) : EndX mg W c E ρ1 σ H1 ρ' out Q := by
  cases out with
  | inl d => exact fun z H' P => q z H' ⟨p.trans P.1, P.2⟩
  | inr e => exact fun cls a H' P x => q cls a H' ⟨p.trans P.1, P.2⟩ x
theorem EndXS.from {mg : Str → Option Value} {c : Cn} {E : AS} {ρ ρ1 ρ' : Rho} {σ σ1 : L2.St} {H H1 : Hp} {out : Out ⊕ Exn} {Dd : Ends} (p : PostN c E ρ σ H ρ1 σ1 H1) (q : EndXS mg W c E ρ σ H ρ' out Dd) : EndXS mg W c E ρ1 σ1 H1 ρ' out Dd := by
  cases out with
  | inl o => exact EndS.from p q
  | inr e => exact fun cls a σ' H' P x => q cls a σ' H' (p.trans P) x
theorem zx_n (he : PE X e (tE X f)) : PE X e (tX X W (xN f)) := by
  refine ⟨fun pins s σ H Q I hq => he.run pins s σ H Q I ?_⟩
  obtain ⟨c, E, ρ, out, ρ', hK, hR, hf, q⟩ := hq
  obtain ⟨⟨rv, ρ1⟩, h1, hf⟩ := bindS hf
  cases hf
  exact ⟨c, E, ρ, rv, ρ1, hK, hR, h1, fun z H1 P1 => q z H1 (P1.pv hR)⟩
theorem zx_if (ht : PT X t (tT X bt)) (ha : PE X a (tX X W g)) (hb : PE X b (tX X W h)) : PE X (.IfExp t a b pos) (tX X W (xIf bt g h)) := by
  refine ⟨fun pins s σ H Q I hq => (pe_ifExp ht ha hb).run pins s σ H Q I ?_⟩
  obtain ⟨c, E, ρ, out, ρ', hK, hR, hf, q⟩ := hq
  obtain ⟨⟨k, ρ1⟩, h1, hf⟩ := bindS hf
  refine ⟨c, E, ρ, k, ρ1, hK, hR, h1, fun H1 P1 => ?_⟩
  cases k with
  | true => exact iteT ⟨c, E, ρ1, out, ρ', hK, P1.2, hf, q.from P1.1⟩
  | false => exact iteF ⟨c, E, ρ1, out, ρ', hK, P1.2, hf, q.from P1.1⟩
theorem zx_tup2 {x1 : Nat} (ha : PE X a (tE X f)) (hb : PE X b (tX X W g)) (hs1 : starEach [a, b] X.env = (false, eval a X.env) :: starEach [b] X.env) (hs2 : starEach [b] X.env = (false, eval b X.env) :: starEach [] X.env) : PE X (.Tuple [a, b] x1 pos) (tX X W (xTup2 f g)) := by
  refine ⟨fun pins s σ H Q I hq => (pe_tup (pa_cons ha (pa_cons hb pa_nil hs2) hs1)).run pins s σ H Q I ?_⟩
  obtain ⟨c, E, ρ, out, ρ', hK, hR, hf, q⟩ := hq
  obtain ⟨⟨rv, ρ1⟩, h1, hf⟩ := bindS hf
  obtain ⟨⟨o2, ρ2⟩, h2, hf⟩ := bindS hf
  refine ⟨c, E, ρ, rv, ρ1, hK, hR, h1, fun z H1 P1 => ?_⟩
  obtain ⟨s1, r1, v1⟩ := P1.pv hR
  refine ⟨c, E, ρ1, o2, ρ2, hK, r1, h2, ?_⟩
  cases o2 with
  | inr ex =>
    cases hf
    exact fun cls a' H' P x => q cls a' H' ⟨s1.trans P.1, P.2⟩ x
  | inl d =>
    cases hf
    refine fun z2 H2 P2 => ⟨by rw [sizeLine_eq]; simp, fun p np => q _ _ ?_⟩
    have rr : Reps c.K H2 (OE ρ2 σ E) [rv.d, d] [z, z2] := .cons (v1.mono P2.1.keeps) (.cons P2.2.2 .nil)
    exact (ResB.post (rv := .v (.tuple [rv.d, d])) (s1.trans P2.1) P2.2.1 (resTup (oe_there P2.2.1) rr np)).v
theorem xs_n (hs : PS X st (tS X pr s)) : PS X st (tXS X W pr (sxN s)) := by
  refine ⟨fun pins s0 σ H Dd I hq => hs.run pins s0 σ H Dd I ?_⟩
  obtain ⟨c, E, ρ, out, ρ', hK, hp, hR, hf, q⟩ := hq
  obtain ⟨⟨o, ρ1⟩, h1, hf⟩ := bindS hf
  cases hf
  exact ⟨c, E, ρ, o, ρ1, hK, hp, hR, h1, q⟩
theorem xs_nil : PSs X [] (tXS X W pr (sxN sNil)) := by
  refine ⟨fun pins s σ H Dd I hq => pss_nil.run pins s σ H Dd I ?_⟩
  obtain ⟨c, E, ρ, out, ρ', hK, hp, hR, hf, q⟩ := hq
  cases hf
  exact q σ H ⟨Stp.rfl, hR⟩
theorem xs_cons (h1 : PS X st (tXS X W pr sx)) (h2 : PSs X sts (tXS X W pr tx)) : PSs X (st :: sts) (tXS X W pr (sxSeq sx tx)) := by
  refine ⟨fun pins s σ H Dd I hq => (pss_cons h1 h2).run pins s σ H Dd I ?_⟩
  obtain ⟨c, E, ρ, out, ρ', hK, hp, hR, hf, q⟩ := hq
  obtain ⟨⟨o1, ρ1⟩, h1, hf⟩ := bindS hf
  refine ⟨c, E, ρ, o1, ρ1, hK, hp, hR, h1, ?_⟩
  cases o1 with
  | inr ex => cases hf; exact q
  | inl o =>
    cases o with
    | nx => exact fun σ' H' p => ⟨c, E, ρ1, out, ρ', hK, hp, p.2, hf, q.from p⟩
    | bk => cases hf; exact q
    | ct => cases hf; exact q
    | rt rv => cases hf; exact q
theorem xs_if (ht : PT X t (tT X bt)) (ha : PSs X as (tXS X W pr sx)) (hb : PSs X bs (tXS X W pr tx)) : PS X (.If t as bs pos) (tXS X W pr (sxIf bt sx tx)) := by
  refine ⟨fun pins s σ H Dd I hq => (ps_if ht ha hb).run pins s σ H Dd I ?_⟩
  obtain ⟨c, E, ρ, out, ρ', hK, hp, hR, hf, q⟩ := hq
  obtain ⟨⟨k, ρ1⟩, h1, hf⟩ := bindS hf
  refine ⟨c, E, ρ, k, ρ1, hK, hR, h1, fun H1 P1 => ?_⟩
  cases k with
  | true => exact iteT ⟨c, E, ρ1, out, ρ', hK, hp, P1.2, hf, q.from P1⟩
  | false => exact iteF ⟨c, E, ρ1, out, ρ', hK, hp, P1.2, hf, q.from P1⟩
theorem xs_ret (he : PE X e (tX X W g)) : PS X (.Return (some e) pos) (tXS X W pr (sxRet g)) := by
  refine ⟨fun pins s σ H Dd I hq => (ps_ret he).run pins s σ H Dd I ?_⟩
  obtain ⟨c, E, ρ, out, ρ', hK, hp, hR, hf, q⟩ := hq
  obtain ⟨⟨o1, ρ1⟩, h1, hf⟩ := bindS hf
  refine ⟨c, E, ρ, o1, ρ1, hK, hR, h1, ?_⟩
  cases o1 with
  | inr ex => cases hf; exact fun cls a H' P x => q cls a σ H' P x
  | inl d => cases hf; exact fun z H1 P1 => q z σ H1 ⟨⟨P1.1, P1.2.1⟩, P1.2.2⟩
theorem xs_drop (he : PE X e (tX X W g)) (hs : swapsWith e none pos.line X.env = pure false) : PS X (.Expr e pos) (tXS X W pr (sxDrop g)) := by
  refine ⟨fun pins s σ H Dd I hq => (ps_expr he hs).run pins s σ H Dd I ?_⟩
  obtain ⟨c, E, ρ, out, ρ', hK, hp, hR, hf, q⟩ := hq
  obtain ⟨⟨o1, ρ1⟩, h1, hf⟩ := bindS hf
  refine ⟨c, E, ρ, o1, ρ1, hK, hR, h1, ?_⟩
  cases o1 with
  | inr ex => cases hf; exact fun cls a H' P x => q cls a σ H' P x
  | inl d => cases hf; exact fun z H1 P1 => q σ H1 ⟨P1.1, P1.2.1⟩
end
end Z
namespace Z
open PySem PySem.Spec L2
open PyProof.Rows hiding St

/-! ## raise, calls of defs that may raise, such defs by their bodies -/
structure FnX where
  n : Nat
  run : List D → Option (D ⊕ Exn)
def spX (K : PySem.W.Frag) (mg : Str → Option Value) (F : FnX) : Sp := fun vs H Q E => ∃ (O : AS) (ds : List D) (out : D ⊕ Exn), vs.length = F.n ∧ F.run ds = some out ∧ (∀ b, O b → ∃ o, H b = some o) ∧ Reps K H O ds vs ∧
  match out with
  | .inl d => ∀ z H', Grow H H' → Rep K H' O d z → Q z H'
  | .inr e => ∀ cls a H', Grow H H' → ExcAt K mg H' O e cls a → E cls a H'
structure ClsOk (P : Program) (w : World) (K : PySem.W.Frag) (mg : Str → Option Value) (base : Heap) (k : Nat) (cn fld : Str) (C fI : Addr) (fd : FuncData) (gv : Str) : Prop where
  at_ : mg cn = some (.ref C)
  oex : OexC K C
  ini : PySem.W.findIn K (.ref C) "__init__" = some (some (.ref fI))
  tI : PySem.W.typeIn K (.ref fI) = some (.type "function")
  bi : Binds K fd ["self", gv] []
  fn : FnOk P w K mg base CX0 k fI fd ["self", gv] (initSp C fld)
  xf : XfC K C
  nof : PySem.W.findIn K (.ref C) fld = some none
  exm : PySem.W.exmOne K (.ref C) (.ref C) = some true
section
variable {X : Cx} {W : WX} {pr : List Nat} {e : Expr} {es : List Expr} {f : ME} {k : Nat} {cn fld gv : Str} {C fI : Addr} {fd : FuncData} {pos p1 p2 p : Pos}
theorem xs_raise (T : ClsOk X.prog X.w X.K X.mg X.base k cn fld C fI fd gv) (hc : X.calm = true) (tk : Takes X W) (hr : Room (k + 1) X.A) (hg : Gl X cn) (hdb : (cn == ("__debug__" : Str)) = false) (he : PE X e (tE X f))
    (hs : starEach [e] X.env = (false, eval e X.env) :: starEach [] X.env) : PS X (.Raise (some (.Call (.Name cn p1) [e] [] p2)) none pos) (tXS X W pr (sxRaise cn fld f)) := by
  have mk := pmk_oex (CX := CX0) (p := p1) (pos := p2) (dvs := []) (ds := []) T.oex T.ini T.tI T.fn hr T.bi .nil pass0 hg T.at_ (pa_cons he pa_nil hs) hdb hs
  refine ⟨fun pins s σ H Dd I hq => (ps_raise (W := W) hc tk mk).run pins s σ H Dd I ?_⟩
  obtain ⟨c, E, ρ, out, ρ', hK, hp, hR, hf, q⟩ := hq
  obtain ⟨⟨rv, ρ1⟩, h1, hf⟩ := bindS hf
  cases hf
  refine ⟨c, E, ρ, rv, ρ1, hK, hR, h1, fun z H1 P1 => ⟨by simp, fun a na => ?_⟩⟩
  obtain ⟨s1, r1, v1⟩ := P1.pv hR
  refine ⟨a, z, rfl, upd_same, fun dx nd ne => ⟨rfl, dx, [(fld, z)], upd_same, ?_, ?_, ?_⟩⟩
  · rw [upd_ne ne, upd_same]
  · rw [upd_ne ne] at nd; exact nd
  · rw [upd_ne ne] at nd
    have e3 : upd (del (upd (upd (upd H1 a (exo a C none)) dx (exd dx [(fld, z)])) a (exo a C (some dx))) a) dx (.xd [(fld, z)]) = upd H1 dx (.xd [(fld, z)]) := by
      funext b
      by_cases h1 : b = dx
      · rw [h1, upd_same, upd_same]
      · rw [upd_ne h1, upd_ne h1]
        by_cases h2 : b = a
        · rw [h2, del_same, na]
        · rw [del_ne h2, upd_ne h2, upd_ne h1, upd_ne h2]
    rw [e3]
    have g : Grow H1 (upd H1 dx (.xd [(fld, z)])) := Grow.upd nd
    exact q _ _ σ _ ⟨s1.trans g.stp, r1.grow g⟩ ⟨C, dx, z, T.at_, rfl, rfl, upd_same, v1.mono g.keeps⟩

def xCall (F : FnX) (fs : MOs) : MX := fun ρ => (fs ρ).bind fun r => (tvs r.1).bind fun ds => if ds.length = F.n then (F.run ds).bind fun o => some (o, r.2) else none
theorem xcall_read {F : FnX} {fs : MOs} {σ : L2.St} {H : Hp} {Q : VK} (hq : tX X W (xCall F fs) σ H Q) : tOps X fs σ H fun vs H1 => spX X.K X.mg F vs H1 Q (WE W σ) := by
  obtain ⟨c, E, ρ, out, ρ', hK, hR, hf, q⟩ := hq
  obtain ⟨⟨ps, ρ1⟩, h1, hf⟩ := bindS hf
  obtain ⟨ds, h2, hf⟩ := bindS hf
  split at hf
  · rename_i hl
    obtain ⟨o, h3, hf⟩ := bindS hf
    cases hf
    refine ⟨c, E, ρ, ps, ρ1, hK, hR, h1, fun vs H1 P1 => ?_⟩
    have rr := tvs_ok P1.2.1 h2 P1.2.2
    refine ⟨OE ρ1 σ E, ds, out, by rw [← rr.length]; exact hl, h3, oe_there P1.2.1, by rw [← hK]; exact rr, ?_⟩
    cases out with
    | inl d => exact fun z H' g r => q z H' ⟨P1.1.trans g.stp, P1.2.1.grow g, by rw [hK]; exact r⟩
    | inr ex => exact fun cls a H' g x => q cls a H' ⟨P1.1.trans g.stp, P1.2.1.grow g⟩ (by rw [hK]; exact x)
  · cases hf
variable {F : FnX} {fs gs : MOs} {x : Str} {f0 : Addr} {ps ks : List Str} {kws : List Keyword}
theorem zx_call (Fo : FnOk X.prog X.w X.K X.mg X.base (L2.CX X.prog X.w) k f0 fd ps (spX X.K X.mg F)) (tk : Takes X W) (hr : Room k X.A) (hg : Gl X x) (hm : X.mg x = some (.ref f0)) (hk : PySem.W.keepIn X.K (.ref f0) = true) (hb : Binds X.K fd ps []) (ha : PA X (e :: es) (tOps X fs))
    (hdb : (x == ("__debug__" : Str)) = false) (he : starEach (e :: es) X.env = (false, eval e X.env) :: starEach es X.env) (hpl : (backTo pos (starEach es X.env)).any (·.1) = false) : PE X (.Call (.Name x p) (e :: es) [] pos) (tX X W (xCall F fs)) :=
  ⟨fun pins s σ H Q I hq => (pe_callS (E := WE W) (sp := spX X.K X.mg F) Fo hr hg hm hk hb (passAt tk) ha hdb he hpl).run pins s σ H Q I (xcall_read hq)⟩
/-- f(n=e, ..): all by keywords -/
def xCallK (F : FnX) (m : Nat) (pm : List Nat) (gs : MOs) : MX := fun ρ => (gs ρ).bind fun s => (tvs s.1).bind fun es => (permL es pm).bind fun xs => if decide (xs.length = F.n) && decide (es.length = m) then (F.run xs).bind fun o => some (o, s.2) else none
theorem xcallK_read {m : Nat} {pm : List Nat} {σ : L2.St} {H : Hp} {Q : VK} (hq : tX X W (xCallK F m pm gs) σ H Q) : tOps X gs σ H fun zs H1 => zs.length = m ∧ ∃ ys, permL ([] ++ zs) pm = some ys ∧ spX X.K X.mg F ys H1 Q (WE W σ) := by
  obtain ⟨c, E, ρ, out, ρ', hK, hR, hf, q⟩ := hq
  obtain ⟨⟨ps, ρ1⟩, h1, hf⟩ := bindS hf
  obtain ⟨es2, h2, hf⟩ := bindS hf
  obtain ⟨xs, h4, hf⟩ := bindS hf
  split at hf
  · rename_i hl
    simp only [Bool.and_eq_true, decide_eq_true_eq] at hl
    obtain ⟨o, h3, hf⟩ := bindS hf
    cases hf
    refine ⟨c, E, ρ, ps, ρ1, hK, hR, h1, fun vs H1 P1 => ?_⟩
    have rr := tvs_ok P1.2.1 h2 P1.2.2
    obtain ⟨ys, e1, e2⟩ := permL_map rr h4
    refine ⟨by rw [← rr.length]; exact hl.2, ys, e1, OE ρ1 σ E, xs, out, by rw [← e2.length]; exact hl.1, h3, oe_there P1.2.1, by rw [← hK]; exact e2, ?_⟩
    cases out with
    | inl d => exact fun z H' g r => q z H' ⟨P1.1.trans g.stp, P1.2.1.grow g, by rw [hK]; exact r⟩
    | inr ex => exact fun cls a H' g x => q cls a H' ⟨P1.1.trans g.stp, P1.2.1.grow g⟩ (by rw [hK]; exact x)
  · cases hf
theorem fnx_run {CX : CXT} {sp : Sp} {E : L2.St → XK} {n : Nat} {pm : List Nat} {pins : List (Addr × Obj)} {s : Shared} {σ : L2.St} {H : Hp} {Q : VK} {us ws : List Value} {vs zs ys : List V} (Fo : FnOk X.prog X.w X.K X.mg X.base CX k f0 fd ps sp) (hr : Room k X.A) (hb : KwOk X.K fd ps ks n pm) (hx : PassesAt CX X σ (E σ))
    (I : Inv X pins σ H s) (r : Vals vs us) (rz : Vals zs ws) (l1 : vs.length = n) (l2 : zs.length = ks.length) (e : permL (vs ++ zs) pm = some ys) (h : sp ys H Q (E σ)) : wpAny (model X.prog X.w) X.A (call (.ref f0) us (ks.zip ws)) (EP X pins σ Q) X.xe s := by
  have r2 := permL_rel (r.append rz) (pm := pm)
  rw [e] at r2
  have r2 : Vals ys ((permL (us ++ ws) pm).getD []) := r2
  have hl : ys.length = ps.length := Fo.len _ _ _ _ h
  have e2 : permL (us ++ ws) pm = some ((permL (us ++ ws) pm).getD []) := by
    cases q : permL (us ++ ws) pm with
    | some x => rfl
    | none =>
      rw [q] at r2
      cases r2
      cases pm with
      | nil => cases q
      | cons i pm =>
        unfold permL at e
        obtain ⟨x, _, e⟩ := bindS e
        obtain ⟨t, _, e⟩ := bindS e
        cases e
  refine wpAny_call (codeAny_mono (Fo.run X.A X.stack s H ⟨us, ks.zip ws⟩ _ ys Q (E σ) hr I.env0 (hb.to s us ws _ I.kIn (by rw [← r.length]; exact l1) e2 (by rw [← r2.length]; exact hl) (by rw [← rz.length]; exact l2)) r2 h) fun r s' hq => ?_)
  cases r with
  | error e => exact hx pins H s e s' I hq
  | ok fl =>
    cases fl with
    | ret u => exact I.after hq
    | _ => exact False.elim hq
theorem zx_callK {pm : List Nat} (Fo : FnOk X.prog X.w X.K X.mg X.base (L2.CX X.prog X.w) k f0 fd ps (spX X.K X.mg F)) (tk : Takes X W) (hr : Room k X.A) (hg : Gl X x) (hm : X.mg x = some (.ref f0)) (hk : PySem.W.keepIn X.K (.ref f0) = true) (hb : KwOk X.K fd ps ks 0 pm)
    (hkw : PK X kws (tOps X gs)) (hall : (backToKw pos (keywordEach kws X.env)).all (·.1.isSome) = true) (hks : (backToKw pos (keywordEach kws X.env)).filterMap (·.1) = ks) (hdb : (x == ("__debug__" : Str)) = false)
    (hpl : (backToKw pos (keywordEach kws X.env)).any (·.1.isNone) = false) : PE X (.Call (.Name x p) [] kws pos) (tX X W (xCallK F ks.length pm gs)) := by
  refine ⟨fun pins s σ H Q I hq => ?_⟩
  refine wpAny_Call_Name_kw (ld_glob I hg hm ?_ hdb)
  refine PySem.W.callWith_KW0 (h₀ := X.base) I.ok.mod.kin hk hall (thn (hkw.run pos pins s σ H _ I (xcallK_read hq)) fun ws s2 ⟨zs, H2, I2, rz, l2, ys, e, h⟩ => ⟨I2.kIn, ?_⟩) (by rw [hpl]; rfl)
  rw [hks]
  exact fnx_run (E := WE W) (us := []) Fo hr hb (passAt tk σ) I2 .nil rz rfl l2 e h
end

/-! ## such a def by its body -/
def runX (n k : Nat) (body : SX) : List D → Option (D ⊕ Exn) := fun ds =>
  if ds.length = k then (body (ds.map (fun d => some (.v d)) ++ List.replicate (n - k) none)).bind fun r => match r.1 with
    | .inl (.rt (.v d)) => some (.inl d)
    | .inl .nx => some (.inl .none)
    | .inr e => some (.inr e)
    | _ => none
  else none
section
variable {P : Program} {w : World} {K : PySem.W.Frag} {mg : Str → Option Value} {base : Heap}
theorem start_v {K : PySem.W.Frag} {H : Hp} {O : AS} {N : List Str} {ds : List D} {vs : List V} (r : Reps K H O ds vs) (hl : ds.length ≤ N.length) (hO : ∀ b, O b → ∃ o, H b = some o) :
    R ⟨K, H, L2.start N vs, []⟩ O (ds.map (fun d => some (RV.v d)) ++ List.replicate (N.length - ds.length) none) (L2.start N vs) H ∧ ∀ b, ¬ OwnS (ds.map (fun d => some (RV.v d)) ++ List.replicate (N.length - ds.length) none) (L2.start N vs) b := by
  have no : ∀ (i : Nat) (d : D), (ds.map (fun d => some (RV.v d)) ++ List.replicate (N.length - ds.length) none)[i]? = some (some (.o d)) → False := fun i d q => by
    rcases app_get q with ⟨_, q⟩ | q
    · rw [List.getElem?_map] at q
      cases e : ds[i]? with
      | none => rw [e] at q; cases q
      | some y => rw [e] at q; cases q
    · exact nomatch (List.mem_replicate.mp q).2
  have nO : ∀ b, ¬ OwnS (ds.map (fun d => some (RV.v d)) ++ List.replicate (N.length - ds.length) none) (L2.start N vs) b := fun b ⟨i, d, q, _⟩ => no i d q
  have eO : OE (ds.map (fun d => some (RV.v d)) ++ List.replicate (N.length - ds.length) none) (L2.start N vs) O = O := by
    funext b
    exact propext ⟨fun h => h.elim id fun h => (nO b h).elim, .inl⟩
  have len := r.length
  refine ⟨⟨?_, fun i d q => ?_, fun i d q => (no i d q).elim, fun i j d e a q => (no i d q).elim, hO, fun b o h => ⟨o, h⟩, fun i hi => by cases hi⟩, nO⟩
  · unfold L2.start
    simp [len]
  · rcases app_get q with ⟨hi, q⟩ | q
    · rw [List.getElem?_map] at q
      cases e : ds[i]? with
      | none => rw [e] at q; cases q
      | some y =>
        rw [e] at q
        cases q
        obtain ⟨v, h1, h2⟩ := r.get e
        refine ⟨v, ?_, by rw [eO]; exact h2⟩
        have hi : i < vs.length := by
          rw [← len]
          simpa using hi
        unfold L2.start
        rw [List.getElem?_append_left (by rw [List.length_map]; exact hi), List.getElem?_map, h1]
        rfl
    · exact nomatch (List.mem_replicate.mp q).2
theorem zfnX {x qual : Str} {st : Stmt} {f : Addr} {fd : FuncData} {N ps : List Str} {k : Nat} {body : SX} (F : Fun K x qual st f fd) (S : FnScope N ps (defScope st)) (hN : ps.length ≤ N.length)
    (hb : ∀ (cdv : Value) (A : Around) (outer : List Env) (s : Shared) (H : Hp) (E : XK), Room k (A.deeper (envOfC qual (defScope st) s.heap.objs.size f cdv)) → Takes (cxOf (L2.CX P w) P w K mg base N qual (defScope st) f cdv A outer s H E) (fun cls d _ H => E cls d H) →
      PassesOwn (model P w) (cxOf (L2.CX P w) P w K mg base N qual (defScope st) f cdv A outer s H E).A (cxOf (L2.CX P w) P w K mg base N qual (defScope st) f cdv A outer s H E).env (cxOf (L2.CX P w) P w K mg base N qual (defScope st) f cdv A outer s H E).xe →
      PSs (cxOf (L2.CX P w) P w K mg base N qual (defScope st) f cdv A outer s H E) (defBody st) (tXS (cxOf (L2.CX P w) P w K mg base N qual (defScope st) f cdv A outer s H E) (fun cls d _ H => E cls d H) [] body)) :
    FnOk P w K mg base (L2.CX P w) (k + 1) f fd ps (spX K mg ⟨ps.length, runX N.length ps.length body⟩) := by
  refine Fun.okX F S (fun vs H Q E h => ?_) (fun cdv A outer s H vs Q E hr h => ⟨_, hb cdv A outer s H E hr (takes_of rfl rfl rfl rfl) (passes_of rfl), ?_⟩)
  · obtain ⟨O, ds, out, h1, _⟩ := h
    exact h1
  · obtain ⟨O, ds, out, h1, h2, h3, h4, q⟩ := h
    have h2 : runX N.length ps.length body ds = some out := h2
    unfold runX at h2
    split at h2
    · rename_i hl
      obtain ⟨⟨o, ρ'⟩, e1, e2⟩ := bindS h2
      obtain ⟨hR, nO⟩ := start_v (N := N) h4 (by rw [hl]; exact hN) h3
      rw [hl] at hR nO
      have fin : ∀ {σ' : L2.St} {H' : Hp}, PostN ⟨K, H, L2.start N vs, []⟩ O (ds.map (fun d => some (RV.v d)) ++ List.replicate (N.length - ps.length) none) (L2.start N vs) H ρ' σ' H' → Grow H H' ∧ Keeps H' (OE ρ' σ' O) H' O := fun {σ' H'} p =>
        ⟨fun b o hb => p.1.keep b o hb (nO b), fun b o hb n => ⟨hb, fun y => n (.inl y)⟩⟩
      refine ⟨⟨K, H, L2.start N vs, []⟩, O, _, o, ρ', rfl, rfl, hR, e1, ?_⟩
      cases o with
      | inr ex =>
        cases e2
        intro cls a σ' H' p x
        obtain ⟨g, kk⟩ := fin p
        exact q cls a H' g (x.mono kk fun _ _ _ h => h)
      | inl o =>
        cases o with
        | bk => cases e2
        | ct => cases e2
        | nx =>
          cases e2
          intro σ' H' p
          obtain ⟨g, kk⟩ := fin p
          exact q .non H' g .non
        | rt rv =>
          cases rv with
          | o d => cases e2
          | v d =>
            cases e2
            intro z σ' H' p
            obtain ⟨g, kk⟩ := fin p.1
            exact q z H' g (p.2.mono kk)
    · cases h2
end
end Z
namespace Z
open PySem PySem.Spec L2
open PyProof.Rows hiding St

/-! ## a def whose body is one try, the first clause of which takes all that is raised and gives (constant, the error's field) -/
/-- a slot is forgotten, its value may be any -/
theorem R.blank {c : Cn} {E : AS} {ρ : Rho} {σ : L2.St} {H : Hp} {i : Nat} {x : Option V} (r : R c E ρ σ H) (np : i ∉ c.pr) : R c E (ρ.set i none) (σ.set i x) H ∧ Stp ρ σ H (ρ.set i none) (σ.set i x) H := by
  have sub : ∀ (j : Nat) (e : RV), (ρ.set i none)[j]? = some (some e) → j ≠ i ∧ ρ[j]? = some (some e) := fun j e q => by
    rcases get_set q with ⟨_, q, _⟩ | q
    · cases q
    · exact q
  have sg : ∀ j, j ≠ i → (σ.set i x)[j]? = σ[j]? := fun j h => List.getElem?_set_ne (Ne.symm h)
  have osub : ∀ b, OwnS (ρ.set i none) (σ.set i x) b → OwnS ρ σ b := fun b ⟨j, e, q1, q2⟩ => by
    obtain ⟨hj, q3⟩ := sub j _ q1
    exact ⟨j, e, q3, by rw [← sg j hj]; exact q2⟩
  have k : Keeps H (OE ρ σ E) H (OE (ρ.set i none) (σ.set i x) E) := fun b o q n => ⟨q, fun y => n (y.elim .inl fun y => .inr (osub b y))⟩
  refine ⟨⟨by rw [List.length_set, List.length_set]; exact r.len, fun j e q => ?_, fun j e q => ?_, fun j l e f a q1 q2 g1 g2 => ?_, r.eal, r.al, fun j hj => ?_⟩, ⟨fun _ _ h _ => h, fun _ _ h => ⟨_, h⟩, fun b _ _ q => osub b q⟩⟩
  · obtain ⟨hj, q⟩ := sub j _ q
    obtain ⟨v, h1, h2⟩ := r.val j e q
    exact ⟨v, by rw [sg j hj]; exact h1, h2.mono k⟩
  · obtain ⟨hj, q⟩ := sub j _ q
    obtain ⟨a, h1, h2, h3, h4⟩ := r.own j e q
    exact ⟨a, by rw [sg j hj]; exact h1, h2.mono k (fun _ h => h), h3, h4⟩
  · obtain ⟨hj, q1⟩ := sub j _ q1
    obtain ⟨hl, q2⟩ := sub l _ q2
    rw [sg j hj] at g1
    rw [sg l hl] at g2
    exact r.inj j l e f a q1 q2 g1 g2
  · have hji : j ≠ i := fun e => np (e ▸ hj)
    rw [sg j hji]
    exact r.prt j hj
theorem cC_v {kc : Const} {d : D} (h : cC kc = some d) : ∃ v, (∀ (X : Cx) (j : Nat) (pos : Pos), PE X (.Constant kc j pos) (tC v)) ∧ ∀ K H O, Rep K H O d v := by
  unfold cC at h
  split at h
  · cases h; exact ⟨_, fun _ _ _ => pe_non, fun _ _ _ => .non⟩
  · cases h; exact ⟨_, fun _ _ _ => pe_bl, fun _ _ _ => .bl _⟩
  · cases h; exact ⟨_, fun _ _ _ => pe_int, fun _ _ _ => .int _⟩
  · split at h
    · rename_i hs
      cases h; exact ⟨_, fun _ _ _ => pe_str, fun _ _ _ => .str _ hs⟩
    · cases h
  · cases h
def sTry (cn fld : Str) (cd : D) (i : Nat) (b : SX) : SS := fun ρ => (b ρ).bind fun r => match r.1 with
  | .inl o => some (o, r.2)
  | .inr e => if e.cls = cn ∧ e.fld = fld ∧ i < r.2.length then some (.rt (.v (.tuple [cd, e.val])), r.2.set i none) else none
section
variable {X : Cx} {pr : List Nat} {k : Nat} {cn fld gv n : Str} {C fI : Addr} {fd : FuncData} {i : Nat} {body : List Stmt} {b : SX} {kc : Const} {cd : D} {more : List ExceptHandler} {q1 q2 q3 q4 q5 q6 q7 q8 : Pos} {x1 x2 : Nat}
theorem zs_try (T : ClsOk X.prog X.w X.K X.mg X.base k cn fld C fI fd gv) (hs : X.stack = X.env :: X.outer) (hf : X.env.frame = some X.env.locals) (hN : X.N.Nodup) (hi : X.N[i]? = some n) (hl : X.env.kindOf n = some .local) (hg : Gl X cn) (hdb : (cn == ("__debug__" : Str)) = false)
    (hnd : (n == ("__debug__" : Str)) = false) (hnc : (n == ("__classdict__" : Str)) = false) (np : i ∉ pr) (hcd : cC kc = some cd)
    (hb : ∀ (W : WX) (pn : List (Addr × Obj)) (xe : Value → Shared → Prop), Takes (X.tr pn xe) W → PassesOwn (model X.prog X.w) X.A X.env xe → PSs (X.tr pn xe) body (tXS (X.tr pn xe) W pr b))
    (hba : ∀ (a : Addr) (o : Obj) (pn : List (Addr × Obj)), attributeBase (.Name n q6) fld (X.suite a ((a, o) :: pn)).env (eval (.Name n q6) (X.suite a ((a, o) :: pn)).env) = eval (.Name n q6) (X.suite a ((a, o) :: pn)).env) :
    PS X (.Try body (.ExceptHandler (some (.Name cn q1)) (some n) [.Return (some (.Tuple [.Constant kc x1 q4, .Attribute (.Name n q6) fld q7] x2 q5)) q8] q2 :: more) [] [] q3) (tS X pr (sTry cn fld cd i b)) := by
  obtain ⟨v, hv, hvr⟩ := cC_v hcd
  have suite : ∀ (a : Addr) (o : Obj) (cls : Value) (d : Option Addr) (pn : List (Addr × Obj)), Zc cls d o → (∃ vs, o.data = .fields vs) → PSs (X.suite a ((a, o) :: pn)) [.Return (some (.Tuple [.Constant kc x1 q4, .Attribute (.Name n q6) fld q7] x2 q5)) q8] _ := fun a o cls d pn hz hfs =>
    pss_cons (ps_ret (pe_tup (pa_cons (hv _ _ _) (pa_cons (pe_xf (X := X) (pos := q7) T.xf T.nof hz hfs (pe_var (X := X.suite a ((a, o) :: pn)) (pos := q6) hi (.inl hl) hnd hnc) (hba a o pn)) pa_nil rfl) rfl))) pss_nil
  refine ⟨fun pins s σ H Dd I hq => (ps_try1 (tb := fun W => tXS X W pr b) (c := .ref C) (q1 := q1) (q2 := q2) (q3 := q3) (more := more) hs hf hN hi hl ⟨hg, hdb, .inl T.at_⟩ hb suite).run pins s σ H Dd I ?_⟩
  obtain ⟨c, E, ρ, out, ρ', hK, hp, hR, hq1, q⟩ := hq
  obtain ⟨⟨o1, ρ1⟩, h1, hq2⟩ := bindS hq1
  refine ⟨c, E, ρ, o1, ρ1, hK, hp, hR, h1, ?_⟩
  cases o1 with
  | inl o => cases hq2; exact q
  | inr ex =>
    have hq2 : (if ex.cls = cn ∧ ex.fld = fld ∧ i < ρ1.length then some (Out.rt (.v (.tuple [cd, ex.val])), ρ1.set i none) else none) = some (out, ρ') := hq2
    split at hq2
    · rename_i he
      cases hq2
      intro cls a0 σ' H' P x
      obtain ⟨C', dd, z, y1, y2, y3, y4, y5⟩ := x
      have eC : C' = C := by
        have e := y1
        rw [show X.mg ex.cls = some (.ref C) by rw [he.1]; exact T.at_] at e
        have e2 := Option.some.inj e
        cases e2
        rfl
      subst eC
      refine ⟨by rw [y2]; exact T.exm, fun a na => ?_⟩
      have hlen : i < σ'.length := by rw [← P.2.len]; exact he.2.2
      refine ⟨.ref a, List.getElem?_set_self hlen, rfl, y2, dd, [(fld, z)], z, y3, by rw [← he.2.1]; exact y4, by simp [List.lookup], ?_⟩
      refine ⟨by rw [sizeLine_eq]; simp, fun p hp2 => ?_⟩
      obtain ⟨rb, sb⟩ := P.2.blank (i := i) (x := some (.ref a)) (by rw [hp]; exact np)
      have kk : Keeps H' (OE ρ1 σ' E) H' (OE (ρ1.set i none) (σ'.set i (some (.ref a))) E) := sb.keeps
      have rr : Reps c.K H' (OE (ρ1.set i none) (σ'.set i (some (.ref a))) E) [cd, ex.val] [v, z] := .cons (hvr _ _ _) (.cons (y5.mono kk) .nil)
      obtain ⟨g, rt⟩ := resTup (oe_there rb) rr hp2
      exact q (.ref p) _ _ ⟨⟨(P.1.trans sb).trans g.stp, rb.grow g⟩, rt⟩
    · cases hq2
end
end Z
namespace Z
open PySem PySem.Spec L2
open PyProof.Rows hiding St

/-! ## from the text to evaluator functions that may end in an error -/
structure TabX where
  fn : Str → Option FnX
  kw : Str → List Str → Option (List Nat)
  cl : Str → Option Str
def TabX.nil : TabX := ⟨fun _ => none, fun _ _ => none, fun _ => none⟩
def TabX.add (T : TabX) (x : Str) (F : FnX) (kw : List Str → Option (List Nat)) : TabX := ⟨fun y => if y = x then some F else T.fn y, fun y ks => if y = x then kw ks else T.kw y ks, T.cl⟩
def TabX.addC (T : TabX) (x fld : Str) : TabX := ⟨T.fn, T.kw, fun y => if y = x then some fld else T.cl y⟩
structure TabXOk (k : Nat) (T : TabX) (P : Program) (w : World) (K : PySem.W.Frag) (mg : Str → Option Value) (base : Heap) : Prop where
  fn : ∀ x F, T.fn x = some F → ∃ f fd ps, mg x = some (.ref f) ∧ PySem.W.keepIn K (.ref f) = true ∧ Binds K fd ps [] ∧ FnOk P w K mg base (L2.CX P w) k f fd ps (spX K mg F) ∧ ∀ ks pm, T.kw x ks = some pm → KwOk K fd ps ks 0 pm
  cl : ∀ x fld, T.cl x = some fld → ∃ C fI fd gv, ClsOk P w K mg base 1 x fld C fI fd gv
section
variable {k : Nat} {T : TabX} {P : Program} {w : World} {K : PySem.W.Frag} {mg : Str → Option Value} {base : Heap}
theorem TabXOk.nil : TabXOk k .nil P w K mg base := ⟨fun _ _ h => (nomatch h), fun _ _ h => (nomatch h)⟩
theorem TabXOk.mono {j : Nat} (t : TabXOk k T P w K mg base) (h : k ≤ j) : TabXOk j T P w K mg base :=
  ⟨fun x F e => let ⟨f, fd, ps, h1, h2, h3, h4, h5⟩ := t.fn x F e; ⟨f, fd, ps, h1, h2, h3, h4.mono h, h5⟩, t.cl⟩
theorem TabXOk.add (t : TabXOk k T P w K mg base) {x : Str} {F : FnX} {kw : List Str → Option (List Nat)} {f : Addr} {fd : FuncData} {ps : List Str} (hm : mg x = some (.ref f)) (hk : PySem.W.keepIn K (.ref f) = true) (hb : Binds K fd ps []) (hF : FnOk P w K mg base (L2.CX P w) k f fd ps (spX K mg F))
    (hw : ∀ ks pm, kw ks = some pm → KwOk K fd ps ks 0 pm) : TabXOk k (T.add x F kw) P w K mg base := by
  refine ⟨fun y G e => ?_, t.cl⟩
  have e : (if y = x then some F else T.fn y) = some G := e
  split at e
  · rename_i q
    cases e
    subst q
    refine ⟨f, fd, ps, hm, hk, hb, hF, fun ks pm q => hw ks pm ?_⟩
    have q : (if y = y then kw ks else T.kw y ks) = some pm := q
    rwa [if_pos rfl] at q
  · rename_i q
    obtain ⟨f', fd', ps', h1, h2, h3, h4, h5⟩ := t.fn y G e
    refine ⟨f', fd', ps', h1, h2, h3, h4, fun ks pm q' => h5 ks pm ?_⟩
    have q' : (if y = x then kw ks else T.kw y ks) = some pm := q'
    rwa [if_neg q] at q'
theorem TabXOk.addC (t : TabXOk k T P w K mg base) {x fld : Str} {C fI : Addr} {fd : FuncData} {gv : Str} (h : ClsOk P w K mg base 1 x fld C fI fd gv) : TabXOk k (T.addC x fld) P w K mg base := by
  refine ⟨t.fn, fun y g e => ?_⟩
  have e : (if y = x then some fld else T.cl y) = some g := e
  split at e
  · rename_i q
    cases e
    subst q
    exact ⟨C, fI, fd, gv, h⟩
  · exact t.cl y g e
end
section
variable (T : Tab) (TX : TabX) (N : List Str) (c : Co) (pr : List Nat) (sc : Scope)
/-- does it call a def that may raise -/
def hasX : Nat → Expr → Bool
  | _, .Call (.Name x _) _ _ _ => (TX.fn x).isSome
  | n + 1, .IfExp _ a b _ => hasX n a || hasX n b
  | n + 1, .Tuple [_, b] _ _ => hasX n b
  | _, _ => false
def cXc (e : Expr) : Option MX := match e with
  | .Call (.Name x p) es kws pos => match TX.fn x with
    | some F => if isGl sc x then match es, kws with
        | e :: es', [] => (cTs c sc (e :: es')).bind fun fs => some (xCall F fs)
        | [], kw :: kws' => (cKw c sc (kw :: kws')).bind fun g => (TX.kw x g.2).bind fun pm => some (xCallK F g.2.length pm g.1)
        | _, _ => none
      else none
    | none => (c.e sc (.Call (.Name x p) es kws pos)).bind fun f => some (xN f)
  | e => (c.e sc e).bind fun f => some (xN f)
def cXe : Nat → Expr → Option MX
  | n + 1, .IfExp t a b _ => (c.b sc t).bind fun ft => (cXe n a).bind fun fa => (cXe n b).bind fun fb => some (xIf ft fa fb)
  | n + 1, .Tuple [a, b] _ _ => if notStar a && notStar b then (c.e sc a).bind fun fa => (cXe n b).bind fun fb => some (xTup2 fa fb) else none
  | _, e => cXc TX c sc e
def cXss (f : Stmt → Option SX) : List Stmt → Option SX
  | [] => some (sxN sNil)
  | s :: r => (f s).bind fun a => (cXss f r).bind fun b => some (sxSeq a b)
def cXo (fuel : Nat) (n : Nat) (st : Stmt) : Option SX := (cS N c pr sc fuel n st).bind fun f => some (sxN f)
def cXs (fuel : Nat) : Nat → Stmt → Option SX
  | 0, _ => none
  | n + 1, st => match st with
    | .Raise (some (.Call (.Name cn p1) [e] [] p2)) none pos => if isGl sc cn && notStar e then (TX.cl cn).bind fun fld => (c.e sc e).bind fun f => some (sxRaise cn fld f) else none
    | .Expr e pos => if hasX TX n e && notComp e then (cXe TX c sc n e).bind fun f => some (sxDrop f) else cXo N c pr sc fuel n (.Expr e pos)
    | .Return (some e) pos => if hasX TX n e then (cXe TX c sc n e).bind fun f => some (sxRet f) else cXo N c pr sc fuel n (.Return (some e) pos)
    | .If t as bs _ => (c.b sc t).bind fun ft => (cXss (cXs fuel n) as).bind fun fa => (cXss (cXs fuel n) bs).bind fun fb => some (sxIf ft fa fb)
    | st => cXo N c pr sc fuel n st
/-- a def that is one try: the body, the class, the field, the constant, the name, the class's text -/
def cTry (fuel n : Nat) : List Stmt → Option (SX × Str × Str × D × Nat)
  | [.Try body (.ExceptHandler (some (.Name cn _)) (some nm) [.Return (some (.Tuple [.Constant kc _ _, .Attribute (.Name nm2 _) fld _] _ _)) _] _ :: _) [] [] _] =>
    if isGl sc cn && decide (nm2 = nm) && decide (sc.names.lookup nm = some .local) && okNm nm && decide (TX.cl cn = some fld) then (cXss (cXs TX N c pr sc fuel n) body).bind fun b => (cC kc).bind fun cd => (ixOf N nm).bind fun i => if pr.contains i then none else some (b, cn, fld, cd, i) else none
  | _ => none
end
section
variable {k : Nat} {T : Tab} {TX : TabX} {N : List Str} {sc : Scope} {X : Cx} {c : Co} {pr : List Nat} {W : WX}
theorem cXc_ok (S : CoOk k T N c) (C : Ctx k T N sc X) (tx : TabXOk k TX X.prog X.w X.K X.mg X.base) (tk : Takes X W) {e : Expr} {f : MX} (h : cXc TX c sc e = some f) : PE X e (tX X W f) := by
  unfold cXc at h
  split at h
  · rename_i x p es kws pos
    split at h
    · rename_i F hF
      split at h
      · rename_i hg
        obtain ⟨g1, g2, g3⟩ := C.gl hg
        obtain ⟨f0, fd, ps, m1, m2, m3, m4, m5⟩ := tx.fn x F hF
        split at h
        · rename_i e1 es1
          obtain ⟨fs, h1, h⟩ := bindS h
          cases h
          obtain ⟨i1, i2⟩ := cTs_ok S C h1
          exact zx_call m4 tk C.room g1 m1 m2 m3 i1 g2 (star_ok (by simp at i2; exact i2.1)) (plain_ok (by simp at i2; simpa using i2.2))
        · rename_i kw kws1
          obtain ⟨g, h1, h⟩ := bindS h
          obtain ⟨pm, h2, h⟩ := bindS h
          cases h
          obtain ⟨k1, k2, k3, k4⟩ := cKw_ok S C (pos := pos) h1
          exact zx_callK m4 tk C.room g1 m1 m2 (m5 _ _ h2) k1 k2 k3 g2 k4
        · cases h
      · cases h
    · obtain ⟨g, h1, h⟩ := bindS h
      cases h
      exact zx_n (S.e C h1)
  · obtain ⟨g, h1, h⟩ := bindS h
    cases h
    exact zx_n (S.e C h1)
theorem cXe_ok (S : CoOk k T N c) (C : Ctx k T N sc X) (tx : TabXOk k TX X.prog X.w X.K X.mg X.base) (tk : Takes X W) : ∀ (n : Nat) {e : Expr} {f : MX}, cXe TX c sc n e = some f → PE X e (tX X W f) := by
  intro n
  induction n with
  | zero =>
    intro e f h
    unfold cXe at h
    exact cXc_ok S C tx tk h
  | succ n ih =>
    intro e f h
    unfold cXe at h
    split at h
    · rename_i n1 t a b p e1
      cases e1
      obtain ⟨ft, h1, h⟩ := bindS h
      obtain ⟨fa, h2, h⟩ := bindS h
      obtain ⟨fb, h3, h⟩ := bindS h
      cases h
      exact zx_if (S.b C h1) (ih h2) (ih h3)
    · rename_i n1 a b p1 p2 e1
      cases e1
      split at h
      · rename_i hs
        rw [Bool.and_eq_true] at hs
        obtain ⟨fa, h1, h⟩ := bindS h
        obtain ⟨fb, h2, h⟩ := bindS h
        cases h
        exact zx_tup2 (S.e C h1) (ih h2) (star_ok hs.1) (star_ok hs.2)
      · cases h
    · exact cXc_ok S C tx tk h
theorem cXss_ok {F : Stmt → Option SX} (ih : ∀ {st : Stmt} {s : SX}, F st = some s → PS X st (tXS X W pr s)) : ∀ {sts : List Stmt} {s : SX}, cXss F sts = some s → PSs X sts (tXS X W pr s)
  | [], s, h => by cases h; exact xs_nil
  | st :: sts, s, h => by
    obtain ⟨a, h1, h⟩ := bindS h
    obtain ⟨b, h2, h⟩ := bindS h
    cases h
    exact xs_cons (ih h1) (cXss_ok ih h2)
theorem cXo_ok (S : CoOk k T N c) (C : CtS k T N sc X) {fuel n : Nat} {st : Stmt} {s : SX} (h : cXo N c pr sc fuel n st = some s) : PS X st (tXS X W pr s) := by
  obtain ⟨f, h1, h⟩ := bindS h
  cases h
  exact xs_n (cS_ok S C n h1)
theorem cXs_ok (S : CoOk k T N c) (C : CtS k T N sc X) (tx : TabXOk k TX X.prog X.w X.K X.mg X.base) (tk : Takes X W) (hk : 2 ≤ k) {fuel : Nat} : ∀ (n : Nat) {st : Stmt} {s : SX}, cXs TX N c pr sc fuel n st = some s → PS X st (tXS X W pr s) := by
  intro n
  induction n with
  | zero => intro st s h; cases h
  | succ n ih =>
    intro st s h
    unfold cXs at h
    split at h
    · rename_i cn p1 e p2 pos
      split at h
      · rename_i hc
        rw [Bool.and_eq_true] at hc
        obtain ⟨fld, h1, h⟩ := bindS h
        obtain ⟨f, h2, h⟩ := bindS h
        cases h
        obtain ⟨C0, fI, fd, gv, T0⟩ := tx.cl cn fld h1
        obtain ⟨g1, g2, g3⟩ := C.toCtx.gl hc.1
        exact xs_raise T0 C.calm tk (C.room.mono hk) g1 g2 (S.e C.toCtx h2) (star_ok hc.2)
      · cases h
    · rename_i e pos
      split at h
      · rename_i hc
        rw [Bool.and_eq_true] at hc
        obtain ⟨f, h1, h⟩ := bindS h
        cases h
        exact xs_drop (cXe_ok S C.toCtx tx tk n h1) (swap_ok hc.2)
      · exact cXo_ok S C h
    · split at h
      · obtain ⟨f, h1, h⟩ := bindS h
        cases h
        exact xs_ret (cXe_ok S C.toCtx tx tk n h1)
      · exact cXo_ok S C h
    · obtain ⟨ft, h1, h⟩ := bindS h
      obtain ⟨fa, h2, h⟩ := bindS h
      obtain ⟨fb, h3, h⟩ := bindS h
      cases h
      exact xs_if (S.b C.toCtx h1) (cXss_ok ih h2) (cXss_ok ih h3)
    · exact cXo_ok S C h
end
section
variable {k : Nat} {T : Tab} {TX : TabX} {P : Program} {w : World} {K : PySem.W.Frag} {mg : Str → Option Value} {base : Heap}
/-- a def that may raise -/
theorem def_okX {x qual : Str} {st : Stmt} {f : Addr} {fd : FuncData} {N ps : List Str} {body : SX} {m n fuel : Nat} (t : TabOk k T P w K mg base) (tx : TabXOk k TX P w K mg base) (hk : 2 ≤ k) (F : Fun K x qual st f fd) (S : FnScope N ps (defScope st)) (hN : ps.length ≤ N.length)
    (hc : cXss (cXs TX N (co T N m) [] (defScope st) fuel n) (defBody st) = some body) : FnOk P w K mg base (L2.CX P w) (k + 1) f fd ps (spX K mg ⟨ps.length, runX N.length ps.length body⟩) := by
  refine zfnX F S hN fun cdv A outer s H E hr tk po => ?_
  have C : CtS k T N (defScope st) (cxOf (L2.CX P w) P w K mg base N qual (defScope st) f cdv A outer s H E) := by
    refine ⟨⟨rfl, S.nd, rfl, hr, po, fun x kd h => ⟨fun _ => h, fun e => .inl (e ▸ h)⟩, fun _ _ => rfl, t⟩, rfl, ?_⟩
    show (if (defScope st).kind.isAnnotationScope then ScopeKind.function else (defScope st).kind) = _
    rw [S.kind]; rfl
  exact cXss_ok (fun h => cXs_ok (co_ok m) C tx tk hk n h) hc
/-- a def whose body is one try -/
theorem def_try {x qual : Str} {st : Stmt} {f : Addr} {fd : FuncData} {N ps : List Str} {mask : List Bool} {body : SX} {cn fld : Str} {cd : D} {i m n fuel : Nat} (t : TabOk k T P w K mg base) (tx : TabXOk k TX P w K mg base) (hk : 2 ≤ k) (F : Fun K x qual st f fd) (S : FnScope N ps (defScope st)) (hm : mask.length = ps.length) (hN : ps.length ≤ N.length)
    (hc : cTry TX N (co T N m) (prOf 0 mask) (defScope st) fuel n (defBody st) = some (body, cn, fld, cd, i)) : FnOk P w K mg base CX0 (k + 1) f fd ps (spF K ⟨mask, runF N.length mask (sSeq (sTry cn fld cd i body) sNil)⟩) := by
  refine zfn F S hm hN fun cdv A outer s H E hr => ?_
  unfold cTry at hc
  split at hc
  · rename_i bd cn' q1 nm kc y1 y2 nm2 y3 fld' y4 y5 y6 y7 y8 more y9 hb
    split at hc
    · rename_i hg
      simp only [Bool.and_eq_true, decide_eq_true_eq, Bool.not_eq_true'] at hg
      obtain ⟨⟨⟨⟨g1, g2⟩, g3⟩, g4⟩, g6⟩ := hg
      subst g2
      obtain ⟨b, h1, hc⟩ := bindS hc
      obtain ⟨cd', h2, hc⟩ := bindS hc
      obtain ⟨i', h3, hc⟩ := bindS hc
      split at hc
      · cases hc
      · rename_i np
        cases hc
        rw [hb]
        obtain ⟨C0, fI, fdI, gv, T0⟩ := tx.cl _ _ g6
        unfold okNm at g4
        simp only [Bool.and_eq_true, Bool.not_eq_true'] at g4
        have gl : Gl (cxOf CX0 P w K mg base N qual (defScope st) f cdv A outer s H E).nox cn ∧ (cn == ("__debug__" : Str)) = false := by
          have C : CtS k T N (defScope st) (cxOf CX0 P w K mg base N qual (defScope st) f cdv A outer s H E).nox := by
            refine ⟨⟨rfl, S.nd, rfl, hr, PassesOwn.never, fun x kd h => ⟨fun _ => h, fun e => .inl (e ▸ h)⟩, fun _ _ => rfl, t⟩, rfl, ?_⟩
            show (if (defScope st).kind.isAnnotationScope then ScopeKind.function else (defScope st).kind) = _
            rw [S.kind]; rfl
          obtain ⟨e1, e2, e3⟩ := C.toCtx.gl g1
          exact ⟨e1, e2⟩
        refine zs_cons (zs_try (X := (cxOf CX0 P w K mg base N qual (defScope st) f cdv A outer s H E).nox) (n := nm2) T0 rfl rfl S.nd (ixOf_ok h3) g3 gl.1 gl.2 g4.1.1 g4.1.2 (ncont np) h2 (fun W pn xe tk po => ?_) (fun _ _ _ => rfl)) zs_nil
        have C : CtS k T N (defScope st) ((cxOf CX0 P w K mg base N qual (defScope st) f cdv A outer s H E).nox.tr pn xe) := by
          refine ⟨⟨rfl, S.nd, rfl, hr, po, fun x kd h => ⟨fun _ => h, fun e => .inl (e ▸ h)⟩, fun _ _ => rfl, t⟩, rfl, ?_⟩
          show (if (defScope st).kind.isAnnotationScope then ScopeKind.function else (defScope st).kind) = _
          rw [S.kind]; rfl
        exact cXss_ok (fun h => cXs_ok (X := (cxOf CX0 P w K mg base N qual (defScope st) f cdv A outer s H E).nox.tr pn xe) (co_ok m) C tx tk hk n h) h1
    · cases hc
  · cases hc
end
end Z
namespace Z
open PySem PySem.Spec L2
open PyProof.Rows hiding St
open He

/-! ## what the head's looks at an own error say -/
theorem clsB_ok {K : PySem.W.Frag} {C : Addr} (h : clsB K C = true) : ∃ nm q N bs bm sn sub ab col dd k0 k1 k2 k3 k5, K.lookup C = some (excClassObj nm q C N bs bm true sn sub ab col dd k0 k1 k2 k3 k5 "ValueError.__new__") ∧ PySem.HandSPX.refsVE bm = true := by
  unfold clsB at h
  split at h
  · rename_i c dd cd sl ho
    simp only [Bool.and_eq_true, decide_eq_true_eq] at h
    obtain ⟨h1, h2, h3⟩ := h
    split at h3
    · rename_i C' bm k0 k1 k2 k3 n k5 hm hsl
      simp only [Bool.and_eq_true, beq_iff_eq, Bool.not_eq_true'] at h3
      obtain ⟨e1, e2, e3, e4⟩ := h3
      obtain ⟨nm, bs, mro, ns, qn, hd, sn, sub, ab, col, del⟩ := cd
      dsimp only at hm e3 h2
      have es : sl = #[k0, k1, k2, k3, some (.builtin n), k5] := by
        cases sl
        simpa using hsl
      subst hm es h1 e1 e2 e3 h2
      exact ⟨nm, qn, ns, bs, bm, sn, sub, ab, col, dd, k0, k1, k2, k3, k5, ho, e4⟩
    · cases h3
  · cases h
theorem codB_ok {K : PySem.W.Frag} {file : Str} {v : Value} (h : codB K file v = true) : ∃ cda cl d vs sl tf f, v = .ref cda ∧ K.lookup cda = some ⟨cl, d, .fields vs, sl⟩ ∧ vs[2]? = some (.str f tf) ∧ (file == f) = true := by
  unfold codB at h
  split at h
  · rename_i c
    split at h
    · rename_i cl d vs sl ho
      split at h
      · rename_i x y f tf r hl
        refine ⟨c, cl, d, vs, sl, tf, f, rfl, ho, ?_, h⟩
        rw [← Array.getElem?_toList, hl]; rfl
      · cases h
    · cases h
  · cases h
theorem celB_ok {K : PySem.W.Frag} {C : Addr} {l : List (Str × Addr)} (h : celB K C l = true) : ∃ n c cl d sl, l = [(n, c)] ∧ K.lookup c = some ⟨cl, d, .cell (some (.ref C)), sl⟩ := by
  unfold celB at h
  split at h
  · rename_i n c
    split at h
    · rename_i cl d a sl ho
      have e : a = C := by simpa using h
      subst e
      exact ⟨n, c, cl, d, sl, rfl, ho⟩
    · cases h
  · cases h
theorem cls_of {P : Program} {w : World} {K : PySem.W.Frag} {mg : Str → Option Value} {base h : Heap} {file : Str} {d : ClsD} (X : K.In h) (G : h.Ns mainGlobals mg) (T : InitT d.st d.fld d.gv) (c : d.ok K file = true) (e : iniW K d = d.val) (hP : (P.main.file : Str) = file) (ht : (P.main.scope.names.lookup ("super" : Str)).isSome = false)
    (bi : ∀ (kV doc pm : Value) (an : Option Addr) (cdv ct : Value) (cc : Addr) (us : List Value), us.length = 2 → bindArgs (PySem.W.ksFn "__init__" d.qual (defArgs d.st) (defBody d.st) (defScope d.st) .none kV doc pm an cdv ct cc) ⟨us, []⟩ = pure ((["self", d.gv] : List Str).zip us)) :
    ∃ fd, ClsOk P w K mg base 1 d.x d.fld (d.C K) (d.fI K) fd d.gv := by
  unfold ClsD.ok at c
  simp only [Bool.and_eq_true, decide_eq_true_eq] at c
  obtain ⟨c1, c2, c3, c4, c5, c6, c7, c8, c9, c10, c11, c12, c13, c14, c15, c16, c17⟩ := c
  have oex : OexC K (d.C K) := ⟨clsB_ok c4, eqO_ok c11, c12, c13, c14⟩
  unfold fnB at c3
  unfold iniW at e
  split at c3
  · rename_i cl od fd osl ho
    rw [ho] at e
    simp only [Bool.and_eq_true, decide_eq_true_eq] at c3
    obtain ⟨f1, f2, f3, f4, f5⟩ := c3
    obtain ⟨n1, n2, n3, n4, n5, n6, n7, n8, n9, n10, n11, n12, n13, n14, n15⟩ := fd
    have e2 : (some (n1, n2, n3, n4, n5, n6, n7.map (·.1), n15) : IniW) = (some ("__init__", d.qual, defArgs d.st, FuncBody.stmts (defBody d.st), defScope d.st, mainGlobals, ["__class__"], builtinsNs) : IniW) := e
    simp only [Option.some.injEq, Prod.mk.injEq] at e2
    obtain ⟨h1, h2, h3, h4, h5, h6, h7, h8⟩ := e2
    obtain ⟨cda, ccl, ccd, vs, csl, tf, fl, g1, g2, g3, g4⟩ := codB_ok f3
    obtain ⟨nn, cc, ecl, ecd, esl, g5, g6⟩ := celB_ok f4
    dsimp only at g1 g5 f2 f5
    subst g1 g5
    have e3 : nn = "__class__" := by
      simpa using h7
    have e4 : n8 = .none := by
      cases n8 <;> first | rfl | cases f5
    subst h1 h2 h3 h4 h5 h6 h8 e3 f1 e4
    have IK : InitK P K (d.C K) (d.fI K) cc cda d.qual d.st d.fld _ := ⟨oex, c5, eqO_ok c6, eqO_ok c7, c8, c9, eqO_ok c10, ⟨_, _, _, .none, n9, n10, n11, n12, n14, rfl, ho⟩, f2, ⟨ccl, ccd, vs, csl, tf, fl, g2, g3, by rw [hP]; exact g4⟩, ⟨ecl, ecd, esl, g6⟩, ht⟩
    have hs : mg "super" = none := PySem.W.mg_none_of X G (eqO_ok c17)
    exact ⟨_, PySem.W.mg_of X G (eqO_ok c1), oex, eqO_ok c2, by show (List.lookup (d.fI K) K).map (·.cls) = _; rw [ho]; rfl, Binds.all fun us hl => bi _ _ _ _ _ _ _ us hl, init_fn T IK hs, xfB_ok c15, eqO_ok c6, c16⟩
  · cases c3
theorem all_at {es : List ClsD} {K : PySem.W.Frag} {file : Str} (h : es.all (ClsD.ok K file) = true) (i : Nat) {q : ClsD} (e : es[i]? = some q := by rfl) : q.ok K file = true := List.all_eq_true.mp h q (List.mem_of_getElem? e)
theorem map_at {es : List ClsD} {K : PySem.W.Frag} (h : es.map (iniW K) = es.map ClsD.val) (i : Nat) {q : ClsD} (e : es[i]? = some q := by rfl) : iniW K q = q.val := by
  have e2 : (es.map (iniW K))[i]? = (es.map ClsD.val)[i]? := by rw [h]
  rw [List.getElem?_map, List.getElem?_map, e] at e2
  exact Option.some.inj e2
end Z
namespace Z
/-! ## every letter is drawn at last -/
namespace Lt
abbrev p : Int := 2147483543
def pm : Nat → Nat → Nat → Nat
  | 0, _, _ => 1
  | f + 1, b, e => if e = 0 then 1 else if e % 2 = 0 then pm f (b * b % 2147483543) (e / 2) else b * pm f (b * b % 2147483543) (e / 2) % 2147483543
theorem pm_ok : ∀ (f b e : Nat), e < 2 ^ f → pm f b e % 2147483543 = b ^ e % 2147483543
  | 0, b, e, h => by
    have : e = 0 := by have : (2 : Nat) ^ 0 = 1 := rfl; omega
    subst this; rfl
  | f + 1, b, e, h => by
    unfold pm
    have h2 : e / 2 < 2 ^ f := by rw [Nat.pow_succ] at h; omega
    have ih := pm_ok f (b * b % 2147483543) (e / 2) h2
    have sq : (b * b % 2147483543) ^ (e / 2) % 2147483543 = b ^ (2 * (e / 2)) % 2147483543 := by
      rw [← Nat.pow_mod, ← Nat.pow_two, ← Nat.pow_mul]
    rw [sq] at ih
    split
    · rename_i e0; subst e0; rfl
    · split
      · rename_i he
        rw [ih]
        congr 2
        omega
      · rename_i he
        rw [Nat.mod_mod, Nat.mul_mod, ih, ← Nat.mul_mod, ← Nat.pow_succ']
        congr 2
        omega
theorem fermat : 39373 ^ 2147483542 % 2147483543 = 1 := by
  rw [← pm_ok 32 39373 2147483542 (by decide +kernel)]
  decide +kernel
theorem back (j : Nat) : 39373 ^ (1 + 2147483542 * j) % 2147483543 = 39373 := by
  rw [Nat.pow_add, Nat.mul_mod, Nat.pow_mul, Nat.pow_mod (39373 ^ 2147483542) j, fermat, Nat.one_pow]
def bs (b0 c0 : Int) : Nat → Int
  | 0 => b0
  | n + 1 => (bs b0 c0 n * 39373 + (c0 + n + 1) * 30323 + 11) % p
def beta : Int := 852240941
def gam : Int := 831645174
theorem bs_form (b0 c0 : Int) : ∀ n : Nat, ∃ q : Int, bs b0 c0 n = 852240941 * (c0 + n) + 831645174 + ((39373 ^ n : Nat) : Int) * (b0 - 852240941 * c0 - 831645174) + p * q
  | 0 => ⟨0, by show b0 = _; simp; omega⟩
  | n + 1 => by
    obtain ⟨q, h⟩ := bs_form b0 c0 n
    have e : bs b0 c0 (n + 1) = (bs b0 c0 n * 39373 + (c0 + n + 1) * 30323 + 11) % p := rfl
    have pw : ((39373 ^ (n + 1) : Nat) : Int) = 39373 * ((39373 ^ n : Nat) : Int) := by
      rw [Nat.pow_succ, Nat.mul_comm]; rfl
    have pw2 : ((39373 ^ (n + 1) : Nat) : Int) * (b0 - 852240941 * c0 - 831645174) = 39373 * (((39373 ^ n : Nat) : Int) * (b0 - 852240941 * c0 - 831645174)) := by
      rw [pw, Int.mul_assoc]
    rw [pw2]
    generalize ((39373 ^ n : Nat) : Int) * (b0 - 852240941 * c0 - 831645174) = y at h ⊢
    have dv := Int.emod_add_mul_ediv (bs b0 c0 n * 39373 + (c0 + n + 1) * 30323 + 11) p
    rw [← e] at dv
    generalize (bs b0 c0 n * 39373 + (c0 + n + 1) * 30323 + 11) / p = k at dv
    refine ⟨39373 * q - k + 15625 * (c0 + n) + 15247, ?_⟩
    rw [h] at dv
    have ec : ((n + 1 : Nat) : Int) = (n : Int) + 1 := by omega
    rw [ec]
    unfold p at *
    omega
theorem bs_hits (b0 c0 v : Int) (v0 : 0 ≤ v) (v1 : v < p) : ∃ n : Nat, n ≤ 2147483542 * 2147483542 ∧ bs b0 c0 (n + 1) = v := by
  -- the rest that hangs on nothing drawn
  let R : Int := 852240941 * (c0 + 1) + 831645174 + 39373 * (b0 - 852240941 * c0 - 831645174)
  have j0 := Int.emod_nonneg ((R - v) * 1528514239) (show p ≠ 0 by decide)
  have j1 := Int.emod_lt_of_pos ((R - v) * 1528514239) (show 0 < p by decide)
  obtain ⟨j, hj⟩ := Int.eq_ofNat_of_zero_le j0
  have hjl : j ≤ 2147483542 := by unfold p at *; omega
  refine ⟨2147483542 * j, Nat.mul_le_mul_left _ hjl, ?_⟩
  obtain ⟨q, h⟩ := bs_form b0 c0 (2147483542 * j + 1)
  have hb := back j
  rw [Nat.add_comm] at hb
  have hb2 := Nat.div_add_mod (39373 ^ (2147483542 * j + 1)) 2147483543
  rw [hb] at hb2
  generalize (39373 ^ (2147483542 * j + 1)) / 2147483543 = d at hb2
  rw [← hb2] at h
  have bn : 0 ≤ bs b0 c0 (2147483542 * j + 1) ∧ bs b0 c0 (2147483542 * j + 1) < p := ⟨Int.emod_nonneg _ (by decide), Int.emod_lt_of_pos _ (by decide)⟩
  have dv := Int.emod_add_mul_ediv ((R - v) * 1528514239) p
  rw [hj] at dv
  generalize ((R - v) * 1528514239) / p = t at dv
  generalize bs b0 c0 (2147483542 * j + 1) = x at h bn ⊢
  have hR : R = 852240941 * (c0 + 1) + 831645174 + 39373 * (b0 - 852240941 * c0 - 831645174) := rfl
  generalize R = r at hR dv
  have e1 : ((2147483543 * d + 39373 : Nat) : Int) * (b0 - 852240941 * c0 - 831645174) = 2147483543 * ((d : Int) * (b0 - 852240941 * c0 - 831645174)) + 39373 * (b0 - 852240941 * c0 - 831645174) := by
    rw [show ((2147483543 * d + 39373 : Nat) : Int) = 2147483543 * (d : Int) + 39373 by omega, Int.add_mul, Int.mul_assoc]
  rw [e1] at h
  generalize (d : Int) * (b0 - 852240941 * c0 - 831645174) = z at h
  have e2 : ((2147483542 * j + 1 : Nat) : Int) = 2147483542 * (j : Int) + 1 := by omega
  rw [e2] at h
  have hx : ∃ w : Int, x - v = p * w := by
    refine ⟨q + z + 852240941 * (j : Int) + 852240941 * t - (r - v) * 606599486, ?_⟩
    unfold p at *
    omega
  obtain ⟨w, hw⟩ := hx
  have : w = 0 := by unfold p at *; omega
  subst this
  omega
/-- what is drawn from -/
structure W where
  a : Int
  b : Int
  c : Int
def W.d (w : W) : D := .list [.int w.a, .int w.b, .int w.c]
def take (m : Int) (w : W) : Int := if 0 < w.a then w.a % m else (w.b * 39373 + (w.c + 1) * 30323 + 11) % 2147483543 / 128 % m
def next (m : Int) (w : W) : W := if 0 < w.a then ⟨w.a / m, w.b, w.c⟩ else ⟨w.a, (w.b * 39373 + (w.c + 1) * 30323 + 11) % 2147483543, w.c + 1⟩
@[irreducible] def big : Nat := 2 ^ 1048576
structure W.Ok (w : W) : Prop where
  a0 : 0 ≤ w.a
  a1 : w.a.toNat < big
theorem take_in {m : Int} {w : W} (hm : 0 < m) : 0 ≤ take m w ∧ take m w < m := by
  unfold take
  split
  · exact ⟨Int.emod_nonneg _ (by omega), Int.emod_lt_of_pos _ hm⟩
  · exact ⟨Int.emod_nonneg _ (by omega), Int.emod_lt_of_pos _ hm⟩
theorem next_ok {m : Int} {w : W} (hm : 0 < m) (h : w.Ok) : (next m w).Ok := by
  have a0 := h.a0
  have a1 := h.a1
  unfold next
  split
  · have d0 := Int.ediv_nonneg a0 (show 0 ≤ m by omega)
    have d1 := Int.ediv_le_self m a0
    exact ⟨d0, by show (w.a / m).toNat < big; omega⟩
  · exact ⟨a0, a1⟩
def sq : Nat → W → W
  | 0, w => w
  | n + 1, w => sq n (next 26 w)
theorem sq_add : ∀ (m n : Nat) (w : W), sq (m + n) w = sq n (sq m w)
  | 0, n, w => by rw [Nat.zero_add]; rfl
  | m + 1, n, w => by rw [show m + 1 + n = m + n + 1 by omega]; exact sq_add m n (next 26 w)
theorem sq_succ (n : Nat) (w : W) : sq (n + 1) w = next 26 (sq n w) := sq_add n 1 w
theorem run_out : ∀ (k : Nat) (w : W), 0 ≤ w.a → w.a.toNat < 2 ^ k → ∃ n, n ≤ k ∧ (sq n w).a = 0
  | 0, w, h0, h1 => ⟨0, Nat.le_refl _, by have : (2 : Nat) ^ 0 = 1 := rfl; show w.a = 0; omega⟩
  | k + 1, w, h0, h1 => by
    by_cases c : w.a = 0
    · exact ⟨0, Nat.zero_le _, c⟩
    · have e : next 26 w = ⟨w.a / 26, w.b, w.c⟩ := if_pos (by omega)
      have h2 : (next 26 w).a = w.a / 26 := by rw [e]
      obtain ⟨n, h3, h4⟩ := run_out k (next 26 w) (by rw [h2]; omega) (by rw [h2]; rw [Nat.pow_succ] at h1; omega)
      exact ⟨n + 1, by omega, h4⟩
theorem sq_dry (b c : Int) : ∀ n : Nat, sq n ⟨0, b, c⟩ = ⟨0, bs b c n, c + n⟩
  | 0 => by show (⟨0, b, c⟩ : W) = ⟨0, b, c + (0 : Nat)⟩; simp
  | n + 1 => by
    rw [sq_succ, sq_dry b c n]
    show (⟨0, (bs b c n * 39373 + (c + n + 1) * 30323 + 11) % 2147483543, c + n + 1⟩ : W) = ⟨0, bs b c (n + 1), c + (n + 1 : Nat)⟩
    rw [show bs b c (n + 1) = (bs b c n * 39373 + (c + n + 1) * 30323 + 11) % 2147483543 from rfl, show ((n + 1 : Nat) : Int) = (n : Int) + 1 by omega, Int.add_assoc c]
def lim : Nat := 1048576 + 2147483542 * 2147483542
theorem letters {w : W} (h : w.Ok) {l : Int} (l0 : 0 ≤ l) (l1 : l < 26) : ∃ n, n ≤ lim ∧ take 26 (sq n w) = l := by
  have a1 := h.a1
  unfold big at a1
  obtain ⟨m, hm, e⟩ := run_out 1048576 w h.a0 a1
  generalize hw : sq m w = v at e
  obtain ⟨a, b, c⟩ := v
  have e : a = 0 := e
  subst e
  obtain ⟨n, hn, e2⟩ := bs_hits b c (128 * l) (by omega) (by unfold p; omega)
  refine ⟨m + n, by unfold lim; omega, ?_⟩
  rw [sq_add, hw, sq_dry]
  show (if (0 : Int) < 0 then _ else bs b c (n + 1) / 128 % 26) = l
  rw [if_neg (by omega), e2]
  omega
/-! the next name -/
def nx (l : List Nat) (c : Nat) : List Nat := if 8 < (l.drop 1 ++ [c, 113]).length then (l.drop 1 ++ [c, 113]).drop 2 else l.drop 1 ++ [c, 113]
theorem nx_len {l : List Nat} {c : Nat} (h1 : 1 ≤ l.length) (h8 : l.length ≤ 8) : 1 ≤ (nx l c).length ∧ (nx l c).length ≤ 8 := by
  unfold nx
  split <;> simp at * <;> omega
theorem nx_key {l : List Nat} {c : Nat} (h1 : 1 ≤ l.length) : (nx l c).reverse[1]? = some c := by
  unfold nx
  split
  · rename_i h
    have h2 : 2 ≤ (l.drop 1).length := by simp at *; omega
    rw [List.drop_append_of_le_length h2, List.reverse_append]; rfl
  · rw [List.reverse_append]; rfl
def nsq : Nat → List Nat × W → List Nat × W
  | 0, s => s
  | n + 1, s => nsq n (nx s.1 (97 + (take 26 s.2).toNat), next 26 s.2)
theorem nsq_succ : ∀ (n : Nat) (s : List Nat × W), nsq (n + 1) s = (nx (nsq n s).1 (97 + (take 26 (nsq n s).2).toNat), next 26 (nsq n s).2)
  | 0, _ => rfl
  | n + 1, s => nsq_succ n (nx s.1 (97 + (take 26 s.2).toNat), next 26 s.2)
theorem nsq_well : ∀ (n : Nat) (s : List Nat × W), (nsq n s).2 = sq n s.2
  | 0, _ => rfl
  | n + 1, s => nsq_well n _
theorem nsq_len : ∀ (n : Nat) (s : List Nat × W), 1 ≤ s.1.length → s.1.length ≤ 8 → 1 ≤ (nsq n s).1.length
  | 0, _, h, _ => h
  | n + 1, s, h, h8 => by
    obtain ⟨a, b⟩ := nx_len (c := 97 + (take 26 s.2).toNat) h h8
    exact nsq_len n _ a b
theorem nodup_leL {α : Type} [BEq α] [LawfulBEq α] : ∀ {l us : List α}, l.Nodup → (∀ x ∈ l, x ∈ us) → l.length ≤ us.length
  | [], us, _, _ => Nat.zero_le _
  | x :: l, us, nd, h => by
    have hx := h x List.mem_cons_self
    rw [List.nodup_cons] at nd
    have ih := nodup_leL (l := l) (us := us.erase x) nd.2 fun y hy => (List.mem_erase_of_ne (fun e => nd.1 (by rw [← e]; exact hy))).mpr (h y (List.mem_cons_of_mem _ hy))
    rw [List.length_erase_of_mem hx] at ih
    have : 0 < us.length := List.length_pos_of_mem hx
    rw [List.length_cons]; omega
theorem name_comes {l : List Nat} {w : W} (h1 : 1 ≤ l.length) (h8 : l.length ≤ 8) (hw : w.Ok) {us : List (List Nat)} (hu : us.length < 26) : ∃ n, n ≤ lim + 1 ∧ (nsq n (l, w)).1 ∉ us := by
  apply Classical.byContradiction
  intro no
  have all : ∀ n, n ≤ lim + 1 → (nsq n (l, w)).1 ∈ us := fun n hn => Classical.byContradiction fun q => no ⟨n, hn, q⟩
  have pick : ∀ i : Nat, i < 26 → ∃ x ∈ us, x.reverse[1]? = some (97 + i) := fun i hi => by
    obtain ⟨n, hn, e⟩ := letters hw (l := (i : Int)) (by omega) (by omega)
    refine ⟨(nsq (n + 1) (l, w)).1, all _ (by omega), ?_⟩
    rw [nsq_succ]
    show (nx (nsq n (l, w)).1 (97 + (take 26 (nsq n (l, w)).2).toNat)).reverse[1]? = _
    rw [nx_key (nsq_len n (l, w) h1 h8), nsq_well, show take 26 (sq n (l, w).2) = (i : Int) from e]
    rfl
  have ch : ∀ i : Nat, ∃ x : List Nat, i < 26 → x ∈ us ∧ x.reverse[1]? = some (97 + i) := fun i => by
    by_cases h : i < 26
    · obtain ⟨x, a, b⟩ := pick i h
      exact ⟨x, fun _ => ⟨a, b⟩⟩
    · exact ⟨[], fun q => absurd q h⟩
  have nd : ((List.range 26).map fun i => (ch i).choose).Nodup := by
    rw [List.nodup_iff_pairwise_ne, List.pairwise_map]
    refine (List.pairwise_lt_range).imp_of_mem fun {i j} hi hj hij e => ?_
    have a := ((ch i).choose_spec (List.mem_range.mp hi)).2
    have b := ((ch j).choose_spec (List.mem_range.mp hj)).2
    rw [e, b] at a
    have := Option.some.inj a
    omega
  have le := nodup_leL nd (us := us) fun x hx => by
    obtain ⟨i, hi, rfl⟩ := List.mem_map.mp hx
    exact ((ch i).choose_spec (List.mem_range.mp hi)).1
  rw [List.length_map, List.length_range] at le
  omega
end Lt
end Z
namespace Z
open PySem PySem.Spec L2 PyProof.Rows
theorem walk_ofEB {l : PySem.W.OpenLaw} {n k : Nat} {q : Program} {loose : List Str} {XP : (Str → Option Value) → Heap → Prop} {YP : World → Heap → Prop} {d : DefRec} {CX : CXT} {x : Str}
    (hn : l.most = some n) (hn2 : n ≤ sizeLine) (hdf : d.params.defaults = []) (hr : Room k callerA)
    (F : ∀ (w : World) (mg : Str → Option Value) (fa : Addr) (h : Heap), YP w h → h.Ns mainGlobals mg → mg d.name = some (.ref fa) →
      ∃ (K : PySem.W.Frag) (fd : FuncData) (sp : Sp), K.In h ∧ (∀ (s : Shared) (u : Value), BindsTo s fd ⟨[u], []⟩ [(x, u)]) ∧
        (∀ (H : Hp) (a : Addr) (ns : List Int), ns.length ≤ n → (∀ z ∈ ns, Builtin.Int.intBits z ≤ 1048576) → Only H → SqL K H a (ns.map V.int) → sp [.ref a] H (fun v _ => v = .bl true) fun _ _ _ => False) ∧
        ∀ base : Heap, K.In base → base.Ns mainGlobals mg → FnOk l.prog w K mg base CX k fa fd [x] sp)
    (hCX : ∀ (H : Hp) (s : Shared) (e : Value) (s' : Shared), CX [] H s (fun _ _ _ => False) e s' → False) :
    PySem.W.WalkO q loose XP YP l.row.toRowW d [] (fun f vs => PySem.call f vs) := by
  refine Att.attach_callB hn hdf fun w s₀ s₁ mg mb fa o pm cd doc a vs ns G Y ho hd hcd hmg hobj hints hlen hbits hg => ?_
  obtain ⟨K, fd, sp, KX, hb, hsp, hF⟩ := F w mg fa _ Y G.T.g hmg
  exact law_call KX G.T.g G.T.b G.T.builtins G.T.nolimit hg hobj hints (Nat.le_trans hlen hn2) hr hF hb (fun H hO hS => hsp H a ns hlen hbits hO hS) fun H e s' => hCX H s₁ e s'
theorem bits_lt {z : Int} (h : Builtin.Int.intBits z ≤ 1048576) : z.natAbs < Lt.big := by
  unfold Lt.big
  unfold Builtin.Int.intBits at h
  by_cases c : z = 0
  · subst c
    exact Nat.pow_pos (by omega)
  · have c' : (z == 0) = false := beq_false_of_ne c
    rw [c', if_neg Bool.false_ne_true] at h
    exact (Nat.log2_lt (by omega)).mp (by omega)
end Z
namespace Z
open PySem PySem.Spec L2
open PyProof.Rows hiding St

/-! ## a text's parts between the signs c: what Txt.split and Txt.join say, as lists of numbers -/
abbrev chs (s : Str) : List Nat := s.cps.toList
theorem chs_inj {a b : Str} (h : chs a = chs b) : a = b := by
  obtain ⟨⟨x⟩⟩ := a
  obtain ⟨⟨y⟩⟩ := b
  have h : x = y := h
  rw [h]
theorem chs_len (a : Str) : (chs a).length = a.length := by simp [Str.length]
theorem chs_app (a b : Str) : chs (a ++ b) = chs a ++ chs b := by
  show (a ++ b).cps.toList = _
  rw [Str.cps_append, Array.toList_append]
/-- glued by c -/
def glueN (c : Nat) : List (List Nat) → List Nat
  | [] => []
  | [x] => x
  | x :: y :: r => x ++ c :: glueN c (y :: r)
/-- cut at each c -/
def cutN (c : Nat) : List Nat → List (List Nat)
  | [] => [[]]
  | a :: l => if a = c then [] :: cutN c l else match cutN c l with
    | [] => [[a]]
    | p :: r => (a :: p) :: r
theorem cutN_cons (c a : Nat) (l : List Nat) : cutN c (a :: l) = if a = c then [] :: cutN c l else match cutN c l with
    | [] => [[a]]
    | p :: r => (a :: p) :: r := rfl
theorem cutN_ne (c : Nat) (l : List Nat) : cutN c l ≠ [] := by
  cases l with
  | nil => intro h; cases h
  | cons a l =>
    unfold cutN
    split
    · intro h; cases h
    · split <;> (intro h; cases h)
theorem cutN_free (c : Nat) : ∀ l : List Nat, c ∉ l → cutN c l = [l]
  | [], _ => rfl
  | a :: l, h => by
    have h1 : a ≠ c := fun e => h (by rw [e]; exact List.mem_cons_self)
    have ih := cutN_free c l fun q => h (List.mem_cons_of_mem _ q)
    rw [cutN_cons, if_neg h1, ih]
theorem cutN_app (c : Nat) : ∀ (p l : List Nat), c ∉ p → cutN c (p ++ c :: l) = p :: cutN c l
  | [], l, _ => by
    show cutN c (c :: l) = _
    rw [cutN_cons, if_pos rfl]
  | a :: p, l, h => by
    have h1 : a ≠ c := fun e => h (by rw [e]; exact List.mem_cons_self)
    have ih := cutN_app c p l fun q => h (List.mem_cons_of_mem _ q)
    show cutN c (a :: (p ++ c :: l)) = _
    rw [cutN_cons, if_neg h1, ih]
theorem cut_glue (c : Nat) : ∀ (ps : List (List Nat)), ps ≠ [] → (∀ p ∈ ps, c ∉ p) → cutN c (glueN c ps) = ps
  | [], h, _ => absurd rfl h
  | [x], _, h => cutN_free c x (h x List.mem_cons_self)
  | x :: y :: r, _, h => by
    have ih := cut_glue c (y :: r) (by simp) fun p hp => h p (List.mem_cons_of_mem _ hp)
    show cutN c (x ++ c :: glueN c (y :: r)) = _
    rw [cutN_app c x _ (h x List.mem_cons_self), ih]
theorem join_chs (c : Nat) : ∀ ps : List Str, chs (Str.join ⟨#[c]⟩ ps) = glueN c (ps.map chs)
  | [] => rfl
  | [x] => rfl
  | x :: y :: r => by
    have ih := join_chs c (y :: r)
    show chs (x ++ (⟨#[c]⟩ : Str) ++ Str.join ⟨#[c]⟩ (y :: r)) = chs x ++ c :: glueN c ((y :: r).map chs)
    rw [chs_app, chs_app, ih]
    show (chs x ++ [c]) ++ _ = _
    rw [List.append_assoc]; rfl
/-- a text's parts -/
theorem split_chs (x : Str) (c : Nat) : (Txt.split x ⟨#[c]⟩).map chs = cutN c (chs x) := by
  have e := StrLaws.join_split x ⟨#[c]⟩
  have f := StrLaws.split_free x c
  have n : (Txt.split x ⟨#[c]⟩).map chs ≠ [] := fun h => by
    have := split_pos x ⟨#[c]⟩
    have h2 := congrArg List.length h
    rw [List.length_map] at h2
    simp at h2
    rw [h2] at this
    simp at this
  have h := join_chs c (Txt.split x ⟨#[c]⟩)
  rw [e] at h
  rw [h, cut_glue c _ n]
  intro p hp
  obtain ⟨q, hq, rfl⟩ := List.mem_map.mp hp
  exact f q hq
theorem map_chs_inj : ∀ {a b : List Str}, a.map chs = b.map chs → a = b
  | [], [], _ => rfl
  | [], _ :: _, h => by simp at h
  | _ :: _, [], h => by simp at h
  | x :: a, y :: b, h => by
    rw [List.map_cons, List.map_cons, List.cons.injEq] at h
    rw [chs_inj h.1, map_chs_inj h.2]
theorem split_join {c : Nat} {ps : List Str} (h : ps ≠ []) (hf : ∀ p ∈ ps, c ∉ chs p) : Txt.split (Str.join ⟨#[c]⟩ ps) ⟨#[c]⟩ = ps := by
  apply map_chs_inj
  rw [split_chs, join_chs, cut_glue]
  · simpa using h
  · intro p hp
    obtain ⟨q, hq, rfl⟩ := List.mem_map.mp hp
    exact hf q hq
theorem txt_join (sep : Str) (ps : List Str) : Txt.join sep ps = Str.join sep ps := StrLaws.glued_eq_join sep ps
/-- each part is a sublist of the whole -/
theorem cutN_sub (c : Nat) : ∀ (l : List Nat) (p : List Nat), p ∈ cutN c l → p.Sublist l
  | [], p, h => by
    have h : p ∈ [([] : List Nat)] := h
    rw [List.mem_singleton.mp h]; exact List.Sublist.refl _
  | a :: l, p, h => by
    unfold cutN at h
    split at h
    · rcases List.mem_cons.mp h with e | h
      · rw [e]; exact List.nil_sublist _
      · exact (cutN_sub c l p h).cons _
    · split at h
      · rename_i e
        exact absurd e (cutN_ne c l)
      · rename_i q r e
        rcases List.mem_cons.mp h with e2 | h
        · rw [e2]
          exact (cutN_sub c l q (by rw [e]; exact List.mem_cons_self)).cons₂ _
        · exact (cutN_sub c l p (by rw [e]; exact List.mem_cons_of_mem _ h)).cons _
theorem split_sub {x p : Str} {c : Nat} (h : p ∈ Txt.split x ⟨#[c]⟩) : (chs p).Sublist (chs x) := by
  have : chs p ∈ (Txt.split x ⟨#[c]⟩).map chs := List.mem_map.mpr ⟨p, h, rfl⟩
  rw [split_chs] at this
  exact cutN_sub c _ _ this
theorem split_len_le {x p : Str} {c : Nat} (h : p ∈ Txt.split x ⟨#[c]⟩) : p.length ≤ x.length := by
  have := (split_sub h).length_le
  rwa [chs_len, chs_len] at this
theorem glueN_len (c : Nat) : ∀ ps : List (List Nat), (glueN c ps).length ≤ (ps.map List.length).sum + ps.length
  | [] => Nat.zero_le _
  | [x] => by simp [glueN]
  | x :: y :: r => by
    have := glueN_len c (y :: r)
    show (x ++ c :: glueN c (y :: r)).length ≤ _
    simp only [List.length_append, List.length_cons, List.map_cons, List.sum_cons] at this ⊢
    omega
theorem glueN_count (f : Nat → Bool) {c : Nat} (hc : f c = false) : ∀ ps : List (List Nat), (glueN c ps).countP f = (ps.map (List.countP f)).sum
  | [] => rfl
  | [x] => by simp [glueN]
  | x :: y :: r => by
    have := glueN_count f hc (y :: r)
    show (x ++ c :: glueN c (y :: r)).countP f = _
    rw [List.countP_append, List.countP_cons_of_neg (by rw [hc]; exact Bool.false_ne_true), this]
    simp
end Z
namespace K72
open PySem PySem.Spec L2 Z
open PyProof.Rows hiding St
def T0 : Tab := (((((((((((Tab.nil.put "NO_NAME" (.str "")).put "STAR" (.str "*")).put "SERIAL" (.str "serial")).put "LETTERS" (.str "abcdefghijklmnopqrstuvwxyz")).put "MOST_LETTERS" (.int 8)).put "OUTSIDE" (.str "")).put "MOST_HOSTS" (.int 4)).put "MOST_GLUE" (.int 12)).put "MOST_ROWS" (.int 9)).put "MOST_SERIAL" (.int 999)).put "FIGURES" (.str "0123456789"))
theorem sc_l_well : FnScope ["script", "lap", "own", "stir", "each"] ["script", "lap"] (defScope s_l_well) := ⟨rfl, rfl, rfl, by decide +kernel, rfl, by decide +kernel, by decide +kernel⟩
def kw_l_well : Nat → List Str → Option (List Nat) := noKw
def q_l_well_1 : SS :=
    (sSeq (sSet [] 3 (eOp2 modD (oTv (eB intD (osCons (oTv (eOp2 addD (oTv (eOp2 addD (oTv (eOp2 mulD (oSl 3) (oTv (eC (.int 44497))))) (oTv (eOp2 modD (oTv (eB intD (osCons (oSl 4) osNil))) (oTv (eC (.int 2147483587))))))) (oTv (eC (.int 29))))) osNil))) (oTv (eC (.int 2147483563)))))
    sNil)
def b_l_well : SS :=
    (sSeq (sSet [] 2 (eIf (bOp2 ltD (oSl 1) (oTv (eB lenD (osCons (oSl 0) osNil)))) (eB intD (osCons (oTv (eOp2 ixD (oSl 0) (oSl 1))) osNil)) (eC (.int 0))))
    (sSeq (sSet [] 3 (eOp2 addD (oTv (eC (.int 52027))) (oTv (eOp2 mulD (oTv (eC (.int 6971))) (oSl 1)))))
    (sSeq (sFor (iSeq (eOp2 addD (oTv (eSl (oSl 0) iNo (iSome (eC (.int 8))))) (oTv (eLst (osCons (oTv (eVar 2)) osNil))))) (gN [] 4) q_l_well_1)
    (sSeq (sRet (eLst (osCons (oTv (eIf (bOr (bOp2 ltD (oSl 2) (oTv (eC (.int 0)))) (bOp2 geD (oSl 2) (oTv (eOp2 powD (oTv (eC (.int 10))) (oTv (eC (.int 18))))))) (eB absD (osCons (oSl 2) osNil)) (eC (.int 0)))) (osCons (oTv (eVar 3)) (osCons (oTv (eC (.int 0))) osNil)))))
    sNil))))
def F_l_well : FnS := ⟨[false, false], runF 5 [false, false] b_l_well⟩
theorem c_l_well : cSs (cS ["script", "lap", "own", "stir", "each"] (co T0 ["script", "lap", "own", "stir", "each"] 16) [] (defScope s_l_well) 5000000000000000000 16) (defBody s_l_well) = some b_l_well := by kernel_rfl
@[simp] theorem m_l_well : F_l_well.mask = [false, false] := rfl
theorem u_l_well : F_l_well.run = runF 5 [false, false] b_l_well := rfl
def T1 : Tab := T0.add "_law_well" F_l_well kw_l_well
theorem sc_host_text : FnScope ["host"] ["host"] (defScope s_host_text) := ⟨rfl, rfl, rfl, by decide +kernel, rfl, by decide +kernel, by decide +kernel⟩
def kw_host_text : Nat → List Str → Option (List Nat) := noKw
def b_host_text : SS :=
    (sSeq (sRet (eOp2 addD (oTv (eOp2 addD (oTv (eOp2 ixD (oSl 0) (oTv (eC (.int 0))))) (oTv (eC (.str "."))))) (oTv (eOp2 ixD (oSl 0) (oTv (eC (.int 1)))))))
    sNil)
def F_host_text : FnS := ⟨[false], runF 1 [false] b_host_text⟩
theorem c_host_text : cSs (cS ["host"] (co T1 ["host"] 16) [] (defScope s_host_text) 5000000000000000000 16) (defBody s_host_text) = some b_host_text := by kernel_rfl
@[simp] theorem m_host_text : F_host_text.mask = [false] := rfl
theorem u_host_text : F_host_text.run = runF 1 [false] b_host_text := rfl
def T2 : Tab := T1.add "host_text" F_host_text kw_host_text
theorem sc_row_text : FnScope ["row", "name", "hosts", "host"] ["row"] (defScope s_row_text) := ⟨rfl, rfl, rfl, by decide +kernel, rfl, by decide +kernel, by decide +kernel⟩
def kw_row_text : Nat → List Str → Option (List Nat) := noKw
def q_row_text_1 : ME :=
    (eCall F_host_text (aTv (eVar 3) aNil))
def b_row_text : SS :=
    (sSeq (sAsg (eVar 0) (gTn 2 (gCons (gN [] 1) (gCons (gN [] 2) gNil))))
    (sSeq (sRet (eMt mjoinD (oTv (eC (.str " "))) (osCons (oTv (eOp2 addD (oTv (eLst (osCons (oTv (eIf (bOp2 eqD (oSl 1) (oTv (eC (.str "")))) (eC (.str "*")) (eVar 1))) osNil))) (oTv (eLc [3] (iSeq (eVar 2)) (gN [] 3) bYes q_row_text_1)))) osNil)))
    sNil))
def F_row_text : FnS := ⟨[false], runF 4 [false] b_row_text⟩
theorem c_row_text : cSs (cS ["row", "name", "hosts", "host"] (co T2 ["row", "name", "hosts", "host"] 16) [] (defScope s_row_text) 5000000000000000000 16) (defBody s_row_text) = some b_row_text := by kernel_rfl
@[simp] theorem m_row_text : F_row_text.mask = [false] := rfl
theorem u_row_text : F_row_text.run = runF 4 [false] b_row_text := rfl
def T3 : Tab := T2.add "row_text" F_row_text kw_row_text
theorem sc_version_text_of : FnScope ["version", "row", "line"] ["version"] (defScope s_version_text_of) := ⟨rfl, rfl, rfl, by decide +kernel, rfl, by decide +kernel, by decide +kernel⟩
def kw_version_text_of : Nat → List Str → Option (List Nat) := noKw
def q_version_text_of_1 : ME :=
    (eCall F_row_text (aTv (eVar 1) aNil))
def q_version_text_of_2 : ME :=
    (eOp2 addD (oSl 2) (oTv (eC (.str "\n"))))
def b_version_text_of : SS :=
    (sSeq (sRet (eMt mjoinD (oTv (eC (.str ""))) (osCons (oTv (eLc [2] (iSeq (eOp2 addD (oTv (eLst (osCons (oTv (eOp2 addD (oTv (eOp2 addD (oTv (eC (.str "serial"))) (oTv (eC (.str " "))))) (oTv (eB strD (osCons (oTv (eOp2 ixD (oSl 0) (oTv (eC (.int 0))))) osNil))))) osNil))) (oTv (eLc [1] (iSeq (eOp2 ixD (oSl 0) (oTv (eC (.int 1))))) (gN [] 1) bYes q_version_text_of_1)))) (gN [] 2) bYes q_version_text_of_2)) osNil)))
    sNil)
def F_version_text_of : FnS := ⟨[false], runF 3 [false] b_version_text_of⟩
theorem c_version_text_of : cSs (cS ["version", "row", "line"] (co T3 ["version", "row", "line"] 16) [] (defScope s_version_text_of) 5000000000000000000 16) (defBody s_version_text_of) = some b_version_text_of := by kernel_rfl
@[simp] theorem m_version_text_of : F_version_text_of.mask = [false] := rfl
theorem u_version_text_of : F_version_text_of.run = runF 3 [false] b_version_text_of := rfl
def T4 : Tab := T3.add "version_text_of" F_version_text_of kw_version_text_of
theorem sc_is_number : FnScope ["value"] ["value"] (defScope s_is_number) := ⟨rfl, rfl, rfl, by decide +kernel, rfl, by decide +kernel, by decide +kernel⟩
def kw_is_number : Nat → List Str → Option (List Nat) := noKw
def b_is_number : SS :=
    (sSeq (sRet (eAnd (eIsi ["int"] (oSl 0)) (eAnd (eNot (eIsi ["bool"] (oSl 0))) (eOp2 geD (oSl 0) (oTv (eC (.int 0)))))))
    sNil)
def F_is_number : FnS := ⟨[false], runF 1 [false] b_is_number⟩
theorem c_is_number : cSs (cS ["value"] (co T4 ["value"] 16) [] (defScope s_is_number) 5000000000000000000 16) (defBody s_is_number) = some b_is_number := by kernel_rfl
@[simp] theorem m_is_number : F_is_number.mask = [false] := rfl
theorem u_is_number : F_is_number.run = runF 1 [false] b_is_number := rfl
def T5 : Tab := T4.add "is_number" F_is_number kw_is_number
theorem sc_is_up_to : FnScope ["value", "most"] ["value", "most"] (defScope s_is_up_to) := ⟨rfl, rfl, rfl, by decide +kernel, rfl, by decide +kernel, by decide +kernel⟩
def kw_is_up_to : Nat → List Str → Option (List Nat) := noKw
def b_is_up_to : SS :=
    (sSeq (sRet (eAnd (eCall F_is_number (aTv (eVar 0) aNil)) (eOp2 leD (oSl 0) (oSl 1))))
    sNil)
def F_is_up_to : FnS := ⟨[false, false], runF 2 [false, false] b_is_up_to⟩
theorem c_is_up_to : cSs (cS ["value", "most"] (co T5 ["value", "most"] 16) [] (defScope s_is_up_to) 5000000000000000000 16) (defBody s_is_up_to) = some b_is_up_to := by kernel_rfl
@[simp] theorem m_is_up_to : F_is_up_to.mask = [false, false] := rfl
theorem u_is_up_to : F_is_up_to.run = runF 2 [false, false] b_is_up_to := rfl
def T6 : Tab := T5.add "is_up_to" F_is_up_to kw_is_up_to
theorem sc_is_tuple_up_to : FnScope ["value", "low", "high"] ["value", "low", "high"] (defScope s_is_tuple_up_to) := ⟨rfl, rfl, rfl, by decide +kernel, rfl, by decide +kernel, by decide +kernel⟩
def kw_is_tuple_up_to : Nat → List Str → Option (List Nat) := noKw
def b_is_tuple_up_to : SS :=
    (sSeq (sRet (eAnd (eIsi ["tuple"] (oSl 0)) (eChain leD leD (oSl 1) (oTv (eB lenD (osCons (oSl 0) osNil))) (oSl 2))))
    sNil)
def F_is_tuple_up_to : FnS := ⟨[false, false, false], runF 3 [false, false, false] b_is_tuple_up_to⟩
theorem c_is_tuple_up_to : cSs (cS ["value", "low", "high"] (co T6 ["value", "low", "high"] 16) [] (defScope s_is_tuple_up_to) 5000000000000000000 16) (defBody s_is_tuple_up_to) = some b_is_tuple_up_to := by kernel_rfl
@[simp] theorem m_is_tuple_up_to : F_is_tuple_up_to.mask = [false, false, false] := rfl
theorem u_is_tuple_up_to : F_is_tuple_up_to.run = runF 3 [false, false, false] b_is_tuple_up_to := rfl
def T7 : Tab := T6.add "is_tuple_up_to" F_is_tuple_up_to kw_is_tuple_up_to
theorem sc_is_tuple_of : FnScope ["value", "many"] ["value", "many"] (defScope s_is_tuple_of) := ⟨rfl, rfl, rfl, by decide +kernel, rfl, by decide +kernel, by decide +kernel⟩
def kw_is_tuple_of : Nat → List Str → Option (List Nat) := noKw
def b_is_tuple_of : SS :=
    (sSeq (sRet (eCall F_is_tuple_up_to (aTv (eVar 0) (aTv (eVar 1) (aTv (eVar 1) aNil)))))
    sNil)
def F_is_tuple_of : FnS := ⟨[false, false], runF 2 [false, false] b_is_tuple_of⟩
theorem c_is_tuple_of : cSs (cS ["value", "many"] (co T7 ["value", "many"] 16) [] (defScope s_is_tuple_of) 5000000000000000000 16) (defBody s_is_tuple_of) = some b_is_tuple_of := by kernel_rfl
@[simp] theorem m_is_tuple_of : F_is_tuple_of.mask = [false, false] := rfl
theorem u_is_tuple_of : F_is_tuple_of.run = runF 2 [false, false] b_is_tuple_of := rfl
def T8 : Tab := T7.add "is_tuple_of" F_is_tuple_of kw_is_tuple_of
theorem sc_is_pair : FnScope ["value"] ["value"] (defScope s_is_pair) := ⟨rfl, rfl, rfl, by decide +kernel, rfl, by decide +kernel, by decide +kernel⟩
def kw_is_pair : Nat → List Str → Option (List Nat) := noKw
def b_is_pair : SS :=
    (sSeq (sRet (eCall F_is_tuple_of (aTv (eVar 0) (aTv (eC (.int 2)) aNil))))
    sNil)
def F_is_pair : FnS := ⟨[false], runF 1 [false] b_is_pair⟩
theorem c_is_pair : cSs (cS ["value"] (co T8 ["value"] 16) [] (defScope s_is_pair) 5000000000000000000 16) (defBody s_is_pair) = some b_is_pair := by kernel_rfl
@[simp] theorem m_is_pair : F_is_pair.mask = [false] := rfl
theorem u_is_pair : F_is_pair.run = runF 1 [false] b_is_pair := rfl
def T9 : Tab := T8.add "is_pair" F_is_pair kw_is_pair
theorem sc_are_rising : FnScope ["values", "one", "two"] ["values"] (defScope s_are_rising) := ⟨rfl, rfl, rfl, by decide +kernel, rfl, by decide +kernel, by decide +kernel⟩
def kw_are_rising : Nat → List Str → Option (List Nat) := noKw
def q_are_rising_1 : ME :=
    (eOp2 ltD (oSl 1) (oSl 2))
def b_are_rising : SS :=
    (sSeq (sRet (eB allD (osCons (oTv (eLc [1, 2] (iFn zpD (osCons (oTv (eVar 0)) (osCons (oTv (eSl (oSl 0) (iSome (eC (.int 1))) iNo)) osNil))) (gTn 2 (gCons (gN [] 1) (gCons (gN [] 2) gNil))) bYes q_are_rising_1)) osNil)))
    sNil)
def F_are_rising : FnS := ⟨[false], runF 3 [false] b_are_rising⟩
theorem c_are_rising : cSs (cS ["values", "one", "two"] (co T9 ["values", "one", "two"] 16) [] (defScope s_are_rising) 5000000000000000000 16) (defBody s_are_rising) = some b_are_rising := by kernel_rfl
@[simp] theorem m_are_rising : F_are_rising.mask = [false] := rfl
theorem u_are_rising : F_are_rising.run = runF 3 [false] b_are_rising := rfl
def T10 : Tab := T9.add "are_rising" F_are_rising kw_are_rising
theorem sc_is_name : FnScope ["value", "sign"] ["value"] (defScope s_is_name) := ⟨rfl, rfl, rfl, by decide +kernel, rfl, by decide +kernel, by decide +kernel⟩
def kw_is_name : Nat → List Str → Option (List Nat) := noKw
def q_is_name_1 : ME :=
    (eOp2 inD (oSl 1) (oTv (eC (.str "abcdefghijklmnopqrstuvwxyz"))))
def b_is_name : SS :=
    (sSeq (sIf (bOr (bNot (bTru (oTv (eIsi ["str"] (oSl 0))))) (bNot (bChain leD leD (oTv (eC (.int 1))) (oTv (eB lenD (osCons (oSl 0) osNil))) (oTv (eC (.int 8))))))
    (sSeq (sRet (eC (.bool false)))
    sNil)
    sNil)
    (sSeq (sRet (eB allD (osCons (oTv (eLc [1] (iSeq (eVar 0)) (gN [] 1) bYes q_is_name_1)) osNil)))
    sNil))
def F_is_name : FnS := ⟨[false], runF 2 [false] b_is_name⟩
theorem c_is_name : cSs (cS ["value", "sign"] (co T10 ["value", "sign"] 16) [] (defScope s_is_name) 5000000000000000000 16) (defBody s_is_name) = some b_is_name := by kernel_rfl
@[simp] theorem m_is_name : F_is_name.mask = [false] := rfl
theorem u_is_name : F_is_name.run = runF 2 [false] b_is_name := rfl
def T11 : Tab := T10.add "is_name" F_is_name kw_is_name
theorem sc_are_unlike : FnScope ["values", "at", "each"] ["values"] (defScope s_are_unlike) := ⟨rfl, rfl, rfl, by decide +kernel, rfl, by decide +kernel, by decide +kernel⟩
def kw_are_unlike : Nat → List Str → Option (List Nat) := noKw
def q_are_unlike_1 : ME :=
    (eOp2 notInD (oSl 2) (oTv (eSl (oSl 0) iNo (iSome (eVar 1)))))
def b_are_unlike : SS :=
    (sSeq (sRet (eB allD (osCons (oTv (eLc [1, 2] (iFn enuD (osCons (oTv (eVar 0)) osNil)) (gTn 2 (gCons (gN [] 1) (gCons (gN [] 2) gNil))) bYes q_are_unlike_1)) osNil)))
    sNil)
def F_are_unlike : FnS := ⟨[false], runF 3 [false] b_are_unlike⟩
theorem c_are_unlike : cSs (cS ["values", "at", "each"] (co T11 ["values", "at", "each"] 16) [] (defScope s_are_unlike) 5000000000000000000 16) (defBody s_are_unlike) = some b_are_unlike := by kernel_rfl
@[simp] theorem m_are_unlike : F_are_unlike.mask = [false] := rfl
theorem u_are_unlike : F_are_unlike.run = runF 3 [false] b_are_unlike := rfl
def T12 : Tab := T11.add "are_unlike" F_are_unlike kw_are_unlike
theorem sc_is_text : FnScope ["value"] ["value"] (defScope s_is_text) := ⟨rfl, rfl, rfl, by decide +kernel, rfl, by decide +kernel, by decide +kernel⟩
def kw_is_text : Nat → List Str → Option (List Nat) := noKw
def b_is_text : SS :=
    (sSeq (sRet (eIsi ["str"] (oSl 0)))
    sNil)
def F_is_text : FnS := ⟨[false], runF 1 [false] b_is_text⟩
theorem c_is_text : cSs (cS ["value"] (co T12 ["value"] 16) [] (defScope s_is_text) 5000000000000000000 16) (defBody s_is_text) = some b_is_text := by kernel_rfl
@[simp] theorem m_is_text : F_is_text.mask = [false] := rfl
theorem u_is_text : F_is_text.run = runF 1 [false] b_is_text := rfl
def T13 : Tab := T12.add "is_text" F_is_text kw_is_text
theorem sc_is_host : FnScope ["value"] ["value"] (defScope s_is_host) := ⟨rfl, rfl, rfl, by decide +kernel, rfl, by decide +kernel, by decide +kernel⟩
def kw_is_host : Nat → List Str → Option (List Nat) := noKw
def b_is_host : SS :=
    (sSeq (sRet (eAnd (eCall F_is_pair (aTv (eVar 0) aNil)) (eAnd (eCall F_is_name (aTv (eOp2 ixD (oSl 0) (oTv (eC (.int 0)))) aNil)) (eAnd (eCall F_is_text (aTv (eOp2 ixD (oSl 0) (oTv (eC (.int 1)))) aNil)) (eOr (eOp2 eqD (oTv (eOp2 ixD (oSl 0) (oTv (eC (.int 1))))) (oTv (eC (.str "")))) (eCall F_is_name (aTv (eOp2 ixD (oSl 0) (oTv (eC (.int 1)))) aNil)))))))
    sNil)
def F_is_host : FnS := ⟨[false], runF 1 [false] b_is_host⟩
theorem c_is_host : cSs (cS ["value"] (co T13 ["value"] 16) [] (defScope s_is_host) 5000000000000000000 16) (defBody s_is_host) = some b_is_host := by kernel_rfl
@[simp] theorem m_is_host : F_is_host.mask = [false] := rfl
theorem u_is_host : F_is_host.run = runF 1 [false] b_is_host := rfl
def T14 : Tab := T13.add "is_host" F_is_host kw_is_host
theorem sc_are_hosts : FnScope ["value", "most", "each"] ["value", "most"] (defScope s_are_hosts) := ⟨rfl, rfl, rfl, by decide +kernel, rfl, by decide +kernel, by decide +kernel⟩
def kw_are_hosts : Nat → List Str → Option (List Nat) := noKw
def q_are_hosts_1 : ME :=
    (eCall F_is_host (aTv (eVar 2) aNil))
def b_are_hosts : SS :=
    (sSeq (sRet (eAnd (eCall F_is_tuple_up_to (aTv (eVar 0) (aTv (eC (.int 0)) (aTv (eVar 1) aNil)))) (eAnd (eB allD (osCons (oTv (eLc [2] (iSeq (eVar 0)) (gN [] 2) bYes q_are_hosts_1)) osNil)) (eCall F_are_unlike (aTv (eVar 0) aNil)))))
    sNil)
def F_are_hosts : FnS := ⟨[false, false], runF 3 [false, false] b_are_hosts⟩
theorem c_are_hosts : cSs (cS ["value", "most", "each"] (co T14 ["value", "most", "each"] 16) [] (defScope s_are_hosts) 5000000000000000000 16) (defBody s_are_hosts) = some b_are_hosts := by kernel_rfl
@[simp] theorem m_are_hosts : F_are_hosts.mask = [false, false] := rfl
theorem u_are_hosts : F_are_hosts.run = runF 3 [false, false] b_are_hosts := rfl
def T15 : Tab := T14.add "are_hosts" F_are_hosts kw_are_hosts
theorem sc_is_entry : FnScope ["value"] ["value"] (defScope s_is_entry) := ⟨rfl, rfl, rfl, by decide +kernel, rfl, by decide +kernel, by decide +kernel⟩
def kw_is_entry : Nat → List Str → Option (List Nat) := noKw
def b_is_entry : SS :=
    (sSeq (sRet (eAnd (eCall F_is_pair (aTv (eVar 0) aNil)) (eAnd (eCall F_is_name (aTv (eOp2 ixD (oSl 0) (oTv (eC (.int 0)))) aNil)) (eCall F_are_hosts (aTv (eOp2 ixD (oSl 0) (oTv (eC (.int 1)))) (aTv (eC (.int 4)) aNil))))))
    sNil)
def F_is_entry : FnS := ⟨[false], runF 1 [false] b_is_entry⟩
theorem c_is_entry : cSs (cS ["value"] (co T15 ["value"] 16) [] (defScope s_is_entry) 5000000000000000000 16) (defBody s_is_entry) = some b_is_entry := by kernel_rfl
@[simp] theorem m_is_entry : F_is_entry.mask = [false] := rfl
theorem u_is_entry : F_is_entry.run = runF 1 [false] b_is_entry := rfl
def T16 : Tab := T15.add "is_entry" F_is_entry kw_is_entry
theorem sc_is_inner_host : FnScope ["value"] ["value"] (defScope s_is_inner_host) := ⟨rfl, rfl, rfl, by decide +kernel, rfl, by decide +kernel, by decide +kernel⟩
def kw_is_inner_host : Nat → List Str → Option (List Nat) := noKw
def b_is_inner_host : SS :=
    (sSeq (sRet (eAnd (eCall F_is_host (aTv (eVar 0) aNil)) (eOp2 neD (oTv (eOp2 ixD (oSl 0) (oTv (eC (.int 1))))) (oTv (eC (.str ""))))))
    sNil)
def F_is_inner_host : FnS := ⟨[false], runF 1 [false] b_is_inner_host⟩
theorem c_is_inner_host : cSs (cS ["value"] (co T16 ["value"] 16) [] (defScope s_is_inner_host) 5000000000000000000 16) (defBody s_is_inner_host) = some b_is_inner_host := by kernel_rfl
@[simp] theorem m_is_inner_host : F_is_inner_host.mask = [false] := rfl
theorem u_is_inner_host : F_is_inner_host.run = runF 1 [false] b_is_inner_host := rfl
def T17 : Tab := T16.add "is_inner_host" F_is_inner_host kw_is_inner_host
theorem sc_is_glue : FnScope ["value", "each"] ["value"] (defScope s_is_glue) := ⟨rfl, rfl, rfl, by decide +kernel, rfl, by decide +kernel, by decide +kernel⟩
def kw_is_glue : Nat → List Str → Option (List Nat) := noKw
def q_is_glue_1 : ME :=
    (eCall F_is_inner_host (aTv (eVar 1) aNil))
def b_is_glue : SS :=
    (sSeq (sRet (eAnd (eCall F_is_tuple_up_to (aTv (eVar 0) (aTv (eC (.int 0)) (aTv (eC (.int 12)) aNil)))) (eAnd (eB allD (osCons (oTv (eLc [1] (iSeq (eVar 0)) (gN [] 1) bYes q_is_glue_1)) osNil)) (eCall F_are_rising (aTv (eVar 0) aNil)))))
    sNil)
def F_is_glue : FnS := ⟨[false], runF 2 [false] b_is_glue⟩
theorem c_is_glue : cSs (cS ["value", "each"] (co T17 ["value", "each"] 16) [] (defScope s_is_glue) 5000000000000000000 16) (defBody s_is_glue) = some b_is_glue := by kernel_rfl
@[simp] theorem m_is_glue : F_is_glue.mask = [false] := rfl
theorem u_is_glue : F_is_glue.run = runF 2 [false] b_is_glue := rfl
def T18 : Tab := T17.add "is_glue" F_is_glue kw_is_glue
theorem sc_is_glue_row : FnScope ["value"] ["value"] (defScope s_is_glue_row) := ⟨rfl, rfl, rfl, by decide +kernel, rfl, by decide +kernel, by decide +kernel⟩
def kw_is_glue_row : Nat → List Str → Option (List Nat) := noKw
def b_is_glue_row : SS :=
    (sSeq (sRet (eAnd (eCall F_is_pair (aTv (eVar 0) aNil)) (eAnd (eIsi ["str"] (oTv (eOp2 ixD (oSl 0) (oTv (eC (.int 0)))))) (eAnd (eOp2 eqD (oTv (eOp2 ixD (oSl 0) (oTv (eC (.int 0))))) (oTv (eC (.str "")))) (eCall F_is_glue (aTv (eOp2 ixD (oSl 0) (oTv (eC (.int 1)))) aNil))))))
    sNil)
def F_is_glue_row : FnS := ⟨[false], runF 1 [false] b_is_glue_row⟩
theorem c_is_glue_row : cSs (cS ["value"] (co T18 ["value"] 16) [] (defScope s_is_glue_row) 5000000000000000000 16) (defBody s_is_glue_row) = some b_is_glue_row := by kernel_rfl
@[simp] theorem m_is_glue_row : F_is_glue_row.mask = [false] := rfl
theorem u_is_glue_row : F_is_glue_row.run = runF 1 [false] b_is_glue_row := rfl
def T19 : Tab := T18.add "is_glue_row" F_is_glue_row kw_is_glue_row
theorem sc_are_rows : FnScope ["value", "at", "row"] ["value"] (defScope s_are_rows) := ⟨rfl, rfl, rfl, by decide +kernel, rfl, by decide +kernel, by decide +kernel⟩
def kw_are_rows : Nat → List Str → Option (List Nat) := noKw
def q_are_rows_1 : ME :=
    (eOp2 ixD (oSl 2) (oTv (eC (.int 0))))
def q_are_rows_2 : ME :=
    (eOr (eCall F_is_entry (aTv (eVar 2) aNil)) (eAnd (eOp2 eqD (oSl 1) (oTv (eC (.int 0)))) (eCall F_is_glue_row (aTv (eVar 2) aNil))))
def b_are_rows : SS :=
    (sSeq (sIf (bNot (bTru (oTv (eCall F_is_tuple_up_to (aTv (eVar 0) (aTv (eC (.int 0)) (aTv (eC (.int 9)) aNil)))))))
    (sSeq (sRet (eC (.bool false)))
    sNil)
    sNil)
    (sSeq (sIf (bNot (bTru (oTv (eB allD (osCons (oTv (eLc [1, 2] (iFn enuD (osCons (oTv (eVar 0)) osNil)) (gTn 2 (gCons (gN [] 1) (gCons (gN [] 2) gNil))) bYes q_are_rows_2)) osNil)))))
    (sSeq (sRet (eC (.bool false)))
    sNil)
    sNil)
    (sSeq (sRet (eCall F_are_rising (aTv (eLc [2] (iSeq (eVar 0)) (gN [] 2) bYes q_are_rows_1) aNil)))
    sNil)))
def F_are_rows : FnS := ⟨[false], runF 3 [false] b_are_rows⟩
theorem c_are_rows : cSs (cS ["value", "at", "row"] (co T19 ["value", "at", "row"] 16) [] (defScope s_are_rows) 5000000000000000000 16) (defBody s_are_rows) = some b_are_rows := by kernel_rfl
@[simp] theorem m_are_rows : F_are_rows.mask = [false] := rfl
theorem u_are_rows : F_are_rows.run = runF 3 [false] b_are_rows := rfl
def T20 : Tab := T19.add "are_rows" F_are_rows kw_are_rows
theorem sc_is_version_of : FnScope ["value"] ["value"] (defScope s_is_version_of) := ⟨rfl, rfl, rfl, by decide +kernel, rfl, by decide +kernel, by decide +kernel⟩
def kw_is_version_of : Nat → List Str → Option (List Nat) := noKw
def b_is_version_of : SS :=
    (sSeq (sRet (eAnd (eCall F_is_pair (aTv (eVar 0) aNil)) (eAnd (eCall F_is_up_to (aTv (eOp2 ixD (oSl 0) (oTv (eC (.int 0)))) (aTv (eC (.int 999)) aNil))) (eCall F_are_rows (aTv (eOp2 ixD (oSl 0) (oTv (eC (.int 1)))) aNil)))))
    sNil)
def F_is_version_of : FnS := ⟨[false], runF 1 [false] b_is_version_of⟩
theorem c_is_version_of : cSs (cS ["value"] (co T20 ["value"] 16) [] (defScope s_is_version_of) 5000000000000000000 16) (defBody s_is_version_of) = some b_is_version_of := by kernel_rfl
@[simp] theorem m_is_version_of : F_is_version_of.mask = [false] := rfl
theorem u_is_version_of : F_is_version_of.run = runF 1 [false] b_is_version_of := rfl
def T21 : Tab := T20.add "is_version_of" F_is_version_of kw_is_version_of
theorem sc_check_version : FnScope ["version"] ["version"] (defScope s_check_version) := ⟨rfl, rfl, rfl, by decide +kernel, rfl, by decide +kernel, by decide +kernel⟩
def kw_check_version : Nat → List Str → Option (List Nat) := noKw
def b_check_version : SS :=
    (sSeq (sIf (bNot (bTru (oTv (eCall F_is_version_of (aTv (eVar 0) aNil)))))
    (sSeq sBad
    sNil)
    sNil)
    sNil)
def F_check_version : FnS := ⟨[false], runF 1 [false] b_check_version⟩
theorem c_check_version : cSs (cS ["version"] (co T21 ["version"] 16) [] (defScope s_check_version) 5000000000000000000 16) (defBody s_check_version) = some b_check_version := by kernel_rfl
@[simp] theorem m_check_version : F_check_version.mask = [false] := rfl
theorem u_check_version : F_check_version.run = runF 1 [false] b_check_version := rfl
def T22 : Tab := T21.add "check_version" F_check_version kw_check_version
theorem sc_version_text : FnScope ["version"] ["version"] (defScope s_version_text) := ⟨rfl, rfl, rfl, by decide +kernel, rfl, by decide +kernel, by decide +kernel⟩
def kw_version_text : Nat → List Str → Option (List Nat) := (fun n ks => if n = 0 ∧ ks = (["version"] : List Str) then some [0] else none)
def b_version_text : SS :=
    (sSeq (sDrop (eCall F_check_version (aTv (eVar 0) aNil)))
    (sSeq (sRet (eCall F_version_text_of (aTv (eVar 0) aNil)))
    sNil))
def F_version_text : FnS := ⟨[false], runF 1 [false] b_version_text⟩
theorem c_version_text : cSs (cS ["version"] (co T22 ["version"] 16) [] (defScope s_version_text) 5000000000000000000 16) (defBody s_version_text) = some b_version_text := by kernel_rfl
@[simp] theorem m_version_text : F_version_text.mask = [false] := rfl
theorem u_version_text : F_version_text.run = runF 1 [false] b_version_text := rfl
def T23 : Tab := T22.add "version_text" F_version_text kw_version_text
theorem sc_number_in : FnScope ["text", "sign"] ["text"] (defScope s_number_in) := ⟨rfl, rfl, rfl, by decide +kernel, rfl, by decide +kernel, by decide +kernel⟩
def kw_number_in : Nat → List Str → Option (List Nat) := noKw
def q_number_in_1 : ME :=
    (eOp2 inD (oSl 1) (oTv (eC (.str "0123456789"))))
def b_number_in : SS :=
    (sSeq (sIf (bOr (bOp2 eqD (oSl 0) (oTv (eC (.str "")))) (bOr (bNot (bTru (oTv (eB allD (osCons (oTv (eLc [1] (iSeq (eVar 0)) (gN [] 1) bYes q_number_in_1)) osNil))))) (bAnd (bOp2 eqD (oTv (eOp2 ixD (oSl 0) (oTv (eC (.int 0))))) (oTv (eC (.str "0")))) (bOp2 neD (oSl 0) (oTv (eC (.str "0")))))))
    (sSeq (sRet (eC .none))
    sNil)
    sNil)
    (sSeq (sRet (eB intD (osCons (oSl 0) osNil)))
    sNil))
def F_number_in : FnS := ⟨[false], runF 2 [false] b_number_in⟩
theorem c_number_in : cSs (cS ["text", "sign"] (co T23 ["text", "sign"] 16) [] (defScope s_number_in) 5000000000000000000 16) (defBody s_number_in) = some b_number_in := by kernel_rfl
@[simp] theorem m_number_in : F_number_in.mask = [false] := rfl
theorem u_number_in : F_number_in.run = runF 2 [false] b_number_in := rfl
def T24 : Tab := T23.add "number_in" F_number_in kw_number_in
theorem sc_serial_in : FnScope ["line", "words", "number"] ["line"] (defScope s_serial_in) := ⟨rfl, rfl, rfl, by decide +kernel, rfl, by decide +kernel, by decide +kernel⟩
def kw_serial_in : Nat → List Str → Option (List Nat) := noKw
def b_serial_in : SS :=
    (sSeq (sSet [] 1 (eMt splitD (oSl 0) (osCons (oTv (eC (.str " "))) osNil)))
    (sSeq (sIf (bOr (bOp2 neD (oTv (eB lenD (osCons (oSl 1) osNil))) (oTv (eC (.int 2)))) (bOp2 neD (oTv (eOp2 ixD (oSl 1) (oTv (eC (.int 0))))) (oTv (eC (.str "serial")))))
    (sSeq (sRet (eC .none))
    sNil)
    sNil)
    (sSeq (sSet [] 2 (eCall F_number_in (aTv (eOp2 ixD (oSl 1) (oTv (eC (.int 1)))) aNil)))
    (sSeq (sRet (eIf (bOr (bOp2 isD (oSl 2) (oTv (eC .none))) (bOp2 gtD (oSl 2) (oTv (eC (.int 999))))) (eC .none) (eVar 2)))
    sNil))))
def F_serial_in : FnS := ⟨[false], runF 3 [false] b_serial_in⟩
theorem c_serial_in : cSs (cS ["line", "words", "number"] (co T24 ["line", "words", "number"] 16) [] (defScope s_serial_in) 5000000000000000000 16) (defBody s_serial_in) = some b_serial_in := by kernel_rfl
@[simp] theorem m_serial_in : F_serial_in.mask = [false] := rfl
theorem u_serial_in : F_serial_in.run = runF 3 [false] b_serial_in := rfl
def T25 : Tab := T24.add "serial_in" F_serial_in kw_serial_in
theorem sc_host_in : FnScope ["text", "parts"] ["text"] (defScope s_host_in) := ⟨rfl, rfl, rfl, by decide +kernel, rfl, by decide +kernel, by decide +kernel⟩
def kw_host_in : Nat → List Str → Option (List Nat) := noKw
def b_host_in : SS :=
    (sSeq (sSet [] 1 (eMt splitD (oSl 0) (osCons (oTv (eC (.str "."))) osNil)))
    (sSeq (sIf (bOr (bOp2 neD (oTv (eB lenD (osCons (oSl 1) osNil))) (oTv (eC (.int 2)))) (bOr (bNot (bTru (oTv (eCall F_is_name (aTv (eOp2 ixD (oSl 1) (oTv (eC (.int 0)))) aNil))))) (bAnd (bOp2 neD (oTv (eOp2 ixD (oSl 1) (oTv (eC (.int 1))))) (oTv (eC (.str "")))) (bNot (bTru (oTv (eCall F_is_name (aTv (eOp2 ixD (oSl 1) (oTv (eC (.int 1)))) aNil))))))))
    (sSeq (sRet (eC .none))
    sNil)
    sNil)
    (sSeq (sRet (eTup (osCons (oTv (eOp2 ixD (oSl 1) (oTv (eC (.int 0))))) (osCons (oTv (eOp2 ixD (oSl 1) (oTv (eC (.int 1))))) osNil))))
    sNil)))
def F_host_in : FnS := ⟨[false], runF 2 [false] b_host_in⟩
theorem c_host_in : cSs (cS ["text", "parts"] (co T25 ["text", "parts"] 16) [] (defScope s_host_in) 5000000000000000000 16) (defBody s_host_in) = some b_host_in := by kernel_rfl
@[simp] theorem m_host_in : F_host_in.mask = [false] := rfl
theorem u_host_in : F_host_in.run = runF 2 [false] b_host_in := rfl
def T26 : Tab := T25.add "host_in" F_host_in kw_host_in
theorem sc_row_in : FnScope ["line", "words", "hosts", "word"] ["line"] (defScope s_row_in) := ⟨rfl, rfl, rfl, by decide +kernel, rfl, by decide +kernel, by decide +kernel⟩
def kw_row_in : Nat → List Str → Option (List Nat) := noKw
def q_row_in_1 : ME :=
    (eCall F_host_in (aTv (eVar 3) aNil))
def b_row_in : SS :=
    (sSeq (sSet [] 1 (eMt splitD (oSl 0) (osCons (oTv (eC (.str " "))) osNil)))
    (sSeq (sSet [] 2 (eLc [3] (iSeq (eSl (oSl 1) (iSome (eC (.int 1))) iNo)) (gN [] 3) bYes q_row_in_1))
    (sSeq (sIf (bOr (bOp2 inD (oTv (eC .none)) (oSl 2)) (bOp2 gtD (oTv (eB lenD (osCons (oSl 2) osNil))) (oTv (eB maxD (osCons (oTv (eC (.int 4))) (osCons (oTv (eC (.int 12))) osNil))))))
    (sSeq (sRet (eC .none))
    sNil)
    sNil)
    (sSeq (sIf (bOp2 eqD (oTv (eOp2 ixD (oSl 1) (oTv (eC (.int 0))))) (oTv (eC (.str "*"))))
    (sSeq (sRet (eTup (osCons (oTv (eC (.str ""))) (osCons (oTv (eB tupleD (osCons (oSl 2) osNil))) osNil))))
    sNil)
    sNil)
    (sSeq (sRet (eIf (bTru (oTv (eCall F_is_name (aTv (eOp2 ixD (oSl 1) (oTv (eC (.int 0)))) aNil)))) (eTup (osCons (oTv (eOp2 ixD (oSl 1) (oTv (eC (.int 0))))) (osCons (oTv (eB tupleD (osCons (oSl 2) osNil))) osNil))) (eC .none)))
    sNil)))))
def F_row_in : FnS := ⟨[false], runF 4 [false] b_row_in⟩
theorem c_row_in : cSs (cS ["line", "words", "hosts", "word"] (co T26 ["line", "words", "hosts", "word"] 16) [] (defScope s_row_in) 5000000000000000000 16) (defBody s_row_in) = some b_row_in := by kernel_rfl
@[simp] theorem m_row_in : F_row_in.mask = [false] := rfl
theorem u_row_in : F_row_in.run = runF 4 [false] b_row_in := rfl
def T27 : Tab := T26.add "row_in" F_row_in kw_row_in
theorem sc_rows_and : FnScope ["rows", "line", "row"] ["rows", "line"] (defScope s_rows_and) := ⟨rfl, rfl, rfl, by decide +kernel, rfl, by decide +kernel, by decide +kernel⟩
def kw_rows_and : Nat → List Str → Option (List Nat) := noKw
def b_rows_and : SS :=
    (sSeq (sSet [] 2 (eCall F_row_in (aTv (eVar 1) aNil)))
    (sSeq (sIf (bOr (bOp2 isD (oSl 2) (oTv (eC .none))) (bNot (bTru (oTv (eCall F_are_rows (aTv (eOp2 addD (oSl 0) (oTv (eTup (osCons (oTv (eVar 2)) osNil)))) aNil))))))
    (sSeq (sRet (eC .none))
    sNil)
    sNil)
    (sSeq (sRet (eOp2 addD (oSl 0) (oTv (eTup (osCons (oTv (eVar 2)) osNil)))))
    sNil)))
def F_rows_and : FnS := ⟨[false, false], runF 3 [false, false] b_rows_and⟩
theorem c_rows_and : cSs (cS ["rows", "line", "row"] (co T27 ["rows", "line", "row"] 16) [] (defScope s_rows_and) 5000000000000000000 16) (defBody s_rows_and) = some b_rows_and := by kernel_rfl
@[simp] theorem m_rows_and : F_rows_and.mask = [false, false] := rfl
theorem u_rows_and : F_rows_and.run = runF 3 [false, false] b_rows_and := rfl
def T28 : Tab := T27.add "rows_and" F_rows_and kw_rows_and
theorem sc_read_lines : FnScope ["lines", "serial", "rows", "index", "line", "further"] ["lines"] (defScope s_read_lines) := ⟨rfl, rfl, rfl, by decide +kernel, rfl, by decide +kernel, by decide +kernel⟩
def kw_read_lines : Nat → List Str → Option (List Nat) := noKw
def q_read_lines_1 : SS :=
    (sSeq (sSet [] 5 (eCall F_rows_and (aTv (eVar 2) (aTv (eVar 4) aNil))))
    (sSeq (sIf (bOp2 isD (oSl 5) (oTv (eC .none)))
    (sSeq (sRet (eTup (osCons (oTv (eC .none)) (osCons (oTv (eOp2 addD (oSl 3) (oTv (eC (.int 1))))) osNil))))
    sNil)
    sNil)
    (sSeq (sSet [] 2 (eVar 5))
    sNil)))
def b_read_lines : SS :=
    (sSeq (sIf (bOp2 eqD (oSl 0) (oTv (eLst osNil)))
    (sSeq (sRet (eTup (osCons (oTv (eC .none)) (osCons (oTv (eC (.int 0))) osNil))))
    sNil)
    sNil)
    (sSeq (sPar [] [1, 2] (aRv (eCall F_serial_in (aTv (eOp2 ixD (oSl 0) (oTv (eC (.int 0)))) aNil)) (aRv (eTup osNil) aNil)))
    (sSeq (sIf (bOp2 isD (oSl 1) (oTv (eC .none)))
    (sSeq (sRet (eTup (osCons (oTv (eC .none)) (osCons (oTv (eC (.int 0))) osNil))))
    sNil)
    sNil)
    (sSeq (sFor (iFn enuD (osCons (oTv (eSl (oSl 0) (iSome (eC (.int 1))) iNo)) osNil)) (gTn 2 (gCons (gN [] 3) (gCons (gN [] 4) gNil))) q_read_lines_1)
    (sSeq (sRet (eTup (osCons (oTv (eTup (osCons (oTv (eVar 1)) (osCons (oTv (eVar 2)) osNil)))) (osCons (oTv (eC .none)) osNil))))
    sNil)))))
def F_read_lines : FnS := ⟨[false], runF 6 [false] b_read_lines⟩
theorem c_read_lines : cSs (cS ["lines", "serial", "rows", "index", "line", "further"] (co T28 ["lines", "serial", "rows", "index", "line", "further"] 16) [] (defScope s_read_lines) 5000000000000000000 16) (defBody s_read_lines) = some b_read_lines := by kernel_rfl
@[simp] theorem m_read_lines : F_read_lines.mask = [false] := rfl
theorem u_read_lines : F_read_lines.run = runF 6 [false] b_read_lines := rfl
def T29 : Tab := T28.add "read_lines" F_read_lines kw_read_lines
theorem sc_read_version : FnScope ["text", "lines", "version", "wrong"] ["text"] (defScope s_read_version) := ⟨rfl, rfl, rfl, by decide +kernel, rfl, by decide +kernel, by decide +kernel⟩
def kw_read_version : Nat → List Str → Option (List Nat) := (fun n ks => if n = 0 ∧ ks = (["text"] : List Str) then some [0] else none)
def b_read_version : SS :=
    (sSeq (sIf (bNot (bTru (oTv (eCall F_is_text (aTv (eVar 0) aNil)))))
    (sSeq sBad
    sNil)
    sNil)
    (sSeq (sSet [] 1 (eMt splitD (oSl 0) (osCons (oTv (eC (.str "\n"))) osNil)))
    (sSeq (sAsg (eCall F_read_lines (aTv (eSl (oSl 1) iNo (iSome (eOp1 negD (oTv (eC (.int 1)))))) aNil)) (gTn 2 (gCons (gN [] 2) (gCons (gN [] 3) gNil))))
    (sSeq (sIf (bOp2 isNotD (oSl 3) (oTv (eC .none)))
    (sSeq sBad
    sNil)
    sNil)
    (sSeq (sIf (bOp2 neD (oTv (eOp2 ixD (oSl 1) (oTv (eOp1 negD (oTv (eC (.int 1))))))) (oTv (eC (.str ""))))
    (sSeq sBad
    sNil)
    sNil)
    (sSeq (sRetV [] 2)
    sNil))))))
def F_read_version : FnS := ⟨[false], runF 4 [false] b_read_version⟩
theorem c_read_version : cSs (cS ["text", "lines", "version", "wrong"] (co T29 ["text", "lines", "version", "wrong"] 16) [] (defScope s_read_version) 5000000000000000000 16) (defBody s_read_version) = some b_read_version := by kernel_rfl
@[simp] theorem m_read_version : F_read_version.mask = [false] := rfl
theorem u_read_version : F_read_version.run = runF 4 [false] b_read_version := rfl
def T30 : Tab := T29.add "read_version" F_read_version kw_read_version
theorem sc_l_take : FnScope ["well", "many", "digit"] ["well", "many"] (defScope s_l_take) := ⟨rfl, rfl, rfl, by decide +kernel, rfl, by decide +kernel, by decide +kernel⟩
def kw_l_take : Nat → List Str → Option (List Nat) := noKw
def b_l_take : SS :=
    (sSeq (sIf (bOp2 gtD (oTv (eOp2 ixD (oSl 0) (oTv (eC (.int 0))))) (oTv (eC (.int 0))))
    (sSeq (sAsg (eB divmodD (osCons (oTv (eOp2 ixD (oSl 0) (oTv (eC (.int 0))))) (osCons (oSl 1) osNil))) (gTn 2 (gCons (gIx 0 (eC (.int 0))) (gCons (gN [0] 2) gNil))))
    (sSeq (sRetV [0] 2)
    sNil))
    sNil)
    (sSeq (sAsg (eOp2 addD (oTv (eOp2 ixD (oSl 0) (oTv (eC (.int 2))))) (oTv (eC (.int 1)))) (gIx 0 (eC (.int 2))))
    (sSeq (sAsg (eOp2 modD (oTv (eB intD (osCons (oTv (eOp2 addD (oTv (eOp2 addD (oTv (eOp2 mulD (oTv (eOp2 ixD (oSl 0) (oTv (eC (.int 1))))) (oTv (eC (.int 39373))))) (oTv (eOp2 mulD (oTv (eOp2 ixD (oSl 0) (oTv (eC (.int 2))))) (oTv (eC (.int 30323))))))) (oTv (eC (.int 11))))) osNil))) (oTv (eC (.int 2147483543)))) (gIx 0 (eC (.int 1))))
    (sSeq (sRet (eOp2 modD (oTv (eB intD (osCons (oTv (eOp2 fdivD (oTv (eOp2 ixD (oSl 0) (oTv (eC (.int 1))))) (oTv (eC (.int 128))))) osNil))) (oSl 1)))
    sNil))))
def F_l_take : FnS := ⟨[true, false], runF 3 [true, false] b_l_take⟩
theorem c_l_take : cSs (cS ["well", "many", "digit"] (co T30 ["well", "many", "digit"] 16) [0] (defScope s_l_take) 5000000000000000000 16) (defBody s_l_take) = some b_l_take := by kernel_rfl
@[simp] theorem m_l_take : F_l_take.mask = [true, false] := rfl
theorem u_l_take : F_l_take.run = runF 3 [true, false] b_l_take := rfl
def T31 : Tab := T30.add "_law_take" F_l_take kw_l_take
theorem sc_l_same : FnScope ["told", "due", "at"] ["told", "due"] (defScope s_l_same) := ⟨rfl, rfl, rfl, by decide +kernel, rfl, by decide +kernel, by decide +kernel⟩
def kw_l_same : Nat → List Str → Option (List Nat) := noKw
def q_l_same_1 (me : FnS) : ME :=
    (eCall me (aTv (eOp2 ixD (oSl 0) (oSl 2)) (aTv (eOp2 ixD (oSl 1) (oSl 2)) aNil)))
def b_l_same (me : FnS) : SS :=
    (sSeq (sIf (bOr (bAnd (bTru (oTv (eIsi ["tuple"] (oSl 1)))) (bNot (bTru (oTv (eIsi ["tuple"] (oSl 0)))))) (bAnd (bTru (oTv (eIsi ["list"] (oSl 1)))) (bNot (bTru (oTv (eIsi ["list"] (oSl 0)))))))
    (sSeq (sRet (eC (.bool false)))
    sNil)
    sNil)
    (sSeq (sIf (bTru (oTv (eIsi ["tuple", "list"] (oSl 1))))
    (sSeq (sRet (eAnd (eOp2 eqD (oTv (eB lenD (osCons (oSl 0) osNil))) (oTv (eB lenD (osCons (oSl 1) osNil)))) (eB allD (osCons (oTv (eLc [2] (iFn rng1 (osCons (oTv (eB lenD (osCons (oSl 1) osNil))) osNil)) (gN [] 2) bYes (q_l_same_1 me))) osNil))))
    sNil)
    sNil)
    (sSeq (sIf (bOr (bOp2 isD (oSl 1) (oTv (eC .none))) (bOp2 isD (oSl 0) (oTv (eC .none))))
    (sSeq (sRet (eAnd (eOp2 isD (oSl 1) (oTv (eC .none))) (eOp2 isD (oSl 0) (oTv (eC .none)))))
    sNil)
    sNil)
    (sSeq (sIf (bOr (bTru (oTv (eIsi ["bool"] (oSl 1)))) (bTru (oTv (eIsi ["bool"] (oSl 0)))))
    (sSeq (sRet (eAnd (eIsi ["bool"] (oSl 1)) (eAnd (eIsi ["bool"] (oSl 0)) (eOp2 eqD (oSl 1) (oSl 0)))))
    sNil)
    sNil)
    (sSeq (sIf (bTru (oTv (eIsi ["int"] (oSl 1))))
    (sSeq (sRet (eAnd (eIsi ["int"] (oSl 0)) (eOp2 eqD (oSl 0) (oSl 1))))
    sNil)
    sNil)
    (sSeq (sIf (bTru (oTv (eIsi ["str"] (oSl 1))))
    (sSeq (sRet (eAnd (eIsi ["str"] (oSl 0)) (eOp2 eqD (oSl 0) (oSl 1))))
    sNil)
    sNil)
    (sSeq (sRet (eAnd (eIsi ["dict"] (oSl 1)) (eAnd (eIsi ["dict"] (oSl 0)) (eAnd (eOp2 eqD (oTv (eB lenD (osCons (oSl 0) osNil))) (oTv (eB lenD (osCons (oSl 1) osNil)))) (eOp2 eqD (oSl 0) (oSl 1))))))
    sNil)))))))
def R_l_same : Nat → List D → Option (RV × List D)
  | 0 => fun _ => none
  | d + 1 => runF 3 [false, false] (b_l_same ⟨[false, false], R_l_same d⟩)
def F_l_same : FnS := ⟨[false, false], R_l_same 8⟩
theorem c_l_same (r : List D → Option (RV × List D)) : cSs (cS ["told", "due", "at"] (co (T31.add "_law_same" ⟨[false, false], r⟩ kw_l_same) ["told", "due", "at"] 16) [] (defScope s_l_same) 5000000000000000000 16) (defBody s_l_same) = some (b_l_same ⟨[false, false], r⟩) := by kernel_rfl
@[simp] theorem m_l_same : F_l_same.mask = [false, false] := rfl
theorem u_l_same : F_l_same.run = R_l_same 8 := rfl
def T32 : Tab := T31.add "_law_same" F_l_same kw_l_same
theorem sc_l_of : FnScope ["well", "things"] ["well", "things"] (defScope s_l_of) := ⟨rfl, rfl, rfl, by decide +kernel, rfl, by decide +kernel, by decide +kernel⟩
def kw_l_of : Nat → List Str → Option (List Nat) := noKw
def b_l_of : SS :=
    (sSeq (sRet (eOp2 ixD (oSl 1) (oTv (eCall F_l_take (aSl 0 (aTv (eB lenD (osCons (oSl 1) osNil)) aNil))))))
    sNil)
def F_l_of : FnS := ⟨[true, false], runF 2 [true, false] b_l_of⟩
theorem c_l_of : cSs (cS ["well", "things"] (co T32 ["well", "things"] 16) [0] (defScope s_l_of) 5000000000000000000 16) (defBody s_l_of) = some b_l_of := by kernel_rfl
@[simp] theorem m_l_of : F_l_of.mask = [true, false] := rfl
theorem u_l_of : F_l_of.run = runF 2 [true, false] b_l_of := rfl
def T33 : Tab := T32.add "_law_of" F_l_of kw_l_of
theorem sc_l_rising : FnScope ["things", "half", "one", "two", "found", "at", "thing"] ["things"] (defScope s_l_rising) := ⟨rfl, rfl, rfl, by decide +kernel, rfl, by decide +kernel, by decide +kernel⟩
def kw_l_rising : Nat → List Str → Option (List Nat) := noKw
def q_l_rising_1 (me : FnS) : MB :=
    (bAnd (bOp2 ltD (oSl 5) (oTv (eB lenD (osCons (oSl 3) osNil)))) (bOp2 ltD (oTv (eOp2 ixD (oSl 3) (oSl 5))) (oSl 6)))
def q_l_rising_2 (me : FnS) : SS :=
    (sSeq (sDrop (eApp 4 (eOp2 ixD (oSl 3) (oSl 5))))
    (sSeq (sSet [] 5 (eOp2 addD (oSl 5) (oTv (eC (.int 1)))))
    sNil))
def q_l_rising_3 (me : FnS) : SS :=
    (sSeq (whileN (q_l_rising_1 me) (q_l_rising_2 me) 5000000000000000000)
    (sSeq (sDrop (eApp 4 (eVar 6)))
    sNil))
def b_l_rising (me : FnS) : SS :=
    (sSeq (sIf (bOp2 ltD (oTv (eB lenD (osCons (oSl 0) osNil))) (oTv (eC (.int 2))))
    (sSeq (sRetV [] 0)
    sNil)
    sNil)
    (sSeq (sSet [] 1 (eOp2 fdivD (oTv (eB lenD (osCons (oSl 0) osNil))) (oTv (eC (.int 2)))))
    (sSeq (sPar [] [2, 3, 4, 5] (aRv (eCall me (aTv (eSl (oSl 0) iNo (iSome (eVar 1))) aNil)) (aRv (eCall me (aTv (eSl (oSl 0) (iSome (eVar 1)) iNo) aNil)) (aRv (eLst osNil) (aRv (eC (.int 0)) aNil)))))
    (sSeq (sFor (iSeq (eVar 2)) (gN [] 6) (q_l_rising_3 me))
    (sSeq (sRet (eOp2 addD (oSl 4) (oTv (eSl (oSl 3) (iSome (eVar 5)) iNo))))
    sNil)))))
def R_l_rising : Nat → List D → Option (RV × List D)
  | 0 => fun _ => none
  | d + 1 => runF 7 [false] (b_l_rising ⟨[false], R_l_rising d⟩)
def F_l_rising : FnS := ⟨[false], R_l_rising 6⟩
theorem c_l_rising (r : List D → Option (RV × List D)) : cSs (cS ["things", "half", "one", "two", "found", "at", "thing"] (co (T33.add "_law_rising" ⟨[false], r⟩ kw_l_rising) ["things", "half", "one", "two", "found", "at", "thing"] 16) [] (defScope s_l_rising) 5000000000000000000 16) (defBody s_l_rising) = some (b_l_rising ⟨[false], r⟩) := by kernel_rfl
@[simp] theorem m_l_rising : F_l_rising.mask = [false] := rfl
theorem u_l_rising : F_l_rising.run = R_l_rising 6 := rfl
def T34 : Tab := T33.add "_law_rising" F_l_rising kw_l_rising
theorem sc_l_names : FnScope ["well", "many", "found", "turn", "name", "letter"] ["well", "many"] (defScope s_l_names) := ⟨rfl, rfl, rfl, by decide +kernel, rfl, by decide +kernel, by decide +kernel⟩
def kw_l_names : Nat → List Str → Option (List Nat) := noKw
def q_l_names_1 : MB :=
    (bOp2 inD (oSl 4) (oSl 2))
def q_l_names_2 : SS :=
    (sSeq (sSet [0] 4 (eOp2 addD (oTv (eOp2 addD (oTv (eSl (oSl 4) (iSome (eC (.int 1))) iNo)) (oTv (eOp2 ixD (oTv (eC (.str "abcdefghijklmnopqrstuvwxyz"))) (oTv (eCall F_l_take (aSl 0 (aTv (eC (.int 26)) aNil)))))))) (oTv (eC (.str "q")))))
    (sSeq (sSet [0] 4 (eIf (bOp2 gtD (oTv (eB lenD (osCons (oSl 4) osNil))) (oTv (eC (.int 8)))) (eSl (oSl 4) (iSome (eC (.int 2))) iNo) (eVar 4)))
    sNil))
def q_l_names_3 : SS :=
    (sSeq (sSet [0] 4 (eOp2 addD (oSl 4) (oTv (eOp2 ixD (oTv (eC (.str "abcdefghijklmnopqrstuvwxyz"))) (oTv (eCall F_l_take (aSl 0 (aTv (eC (.int 26)) aNil))))))))
    sNil)
def q_l_names_4 : SS :=
    (sSeq (sSet [0] 4 (eC (.str "")))
    (sSeq (sFor (iFn rng1 (osCons (oTv (eOp2 addD (oTv (eC (.int 1))) (oTv (eCall F_l_take (aSl 0 (aTv (eCall F_l_of (aSl 0 (aTv (eTup (osCons (oTv (eC (.int 2))) (osCons (oTv (eC (.int 3))) (osCons (oTv (eC (.int 8))) osNil)))) aNil))) aNil)))))) osNil)) (gN [0] 5) q_l_names_3)
    (sSeq (whileN q_l_names_1 q_l_names_2 5000000000000000000)
    (sSeq (sDrop (eApp 2 (eVar 4)))
    sNil))))
def b_l_names : SS :=
    (sSeq (sSet [0] 2 (eLst osNil))
    (sSeq (sFor (iFn rng1 (osCons (oTv (eVar 1)) osNil)) (gN [0] 3) q_l_names_4)
    (sSeq (sRet (eCall F_l_rising (aTv (eVar 2) aNil)))
    sNil)))
def F_l_names : FnS := ⟨[true, false], runF 6 [true, false] b_l_names⟩
theorem c_l_names : cSs (cS ["well", "many", "found", "turn", "name", "letter"] (co T34 ["well", "many", "found", "turn", "name", "letter"] 16) [0] (defScope s_l_names) 5000000000000000000 16) (defBody s_l_names) = some b_l_names := by kernel_rfl
@[simp] theorem m_l_names : F_l_names.mask = [true, false] := rfl
theorem u_l_names : F_l_names.run = runF 6 [true, false] b_l_names := rfl
def T35 : Tab := T34.add "_law_names" F_l_names kw_l_names
theorem sc_l_hosts : FnScope ["well", "names", "most", "outside", "found", "turn", "host"] ["well", "names", "most", "outside"] (defScope s_l_hosts) := ⟨rfl, rfl, rfl, by decide +kernel, rfl, by decide +kernel, by decide +kernel⟩
def kw_l_hosts : Nat → List Str → Option (List Nat) := noKw
def q_l_hosts_1 : SS :=
    (sSeq (sSet [0] 6 (eTup (osCons (oTv (eCall F_l_of (aSl 0 (aTv (eTup (osCons (oTv (eC (.str "ns"))) (osCons (oTv (eC (.str "a"))) (osCons (oTv (eC (.str "dns"))) (osCons (oTv (eCall F_l_of (aSl 0 (aTv (eVar 1) aNil)))) osNil))))) aNil)))) (osCons (oTv (eIf (bAnd (bTru (oSl 3)) (bOp2 eqD (oTv (eCall F_l_take (aSl 0 (aTv (eC (.int 3)) aNil)))) (oTv (eC (.int 0))))) (eC (.str "")) (eCall F_l_of (aSl 0 (aTv (eVar 1) aNil))))) osNil))))
    (sSeq (sSet [0] 4 (eIf (bOp2 inD (oSl 6) (oSl 4)) (eVar 4) (eOp2 addD (oSl 4) (oTv (eLst (osCons (oTv (eVar 6)) osNil))))))
    sNil))
def b_l_hosts : SS :=
    (sSeq (sSet [0] 4 (eLst osNil))
    (sSeq (sFor (iFn rng1 (osCons (oTv (eCall F_l_take (aSl 0 (aTv (eOp2 addD (oSl 2) (oTv (eC (.int 1)))) aNil)))) osNil)) (gN [0] 5) q_l_hosts_1)
    (sSeq (sRet (eB tupleD (osCons (oSl 4) osNil)))
    sNil)))
def F_l_hosts : FnS := ⟨[true, false, false, false], runF 7 [true, false, false, false] b_l_hosts⟩
theorem c_l_hosts : cSs (cS ["well", "names", "most", "outside", "found", "turn", "host"] (co T35 ["well", "names", "most", "outside", "found", "turn", "host"] 16) [0] (defScope s_l_hosts) 5000000000000000000 16) (defBody s_l_hosts) = some b_l_hosts := by kernel_rfl
@[simp] theorem m_l_hosts : F_l_hosts.mask = [true, false, false, false] := rfl
theorem u_l_hosts : F_l_hosts.run = runF 7 [true, false, false, false] b_l_hosts := rfl
def T36 : Tab := T35.add "_law_hosts" F_l_hosts kw_l_hosts
theorem sc_l_version : FnScope ["well", "names", "most", "rows", "some", "name"] ["well", "names", "most"] (defScope s_l_version) := ⟨rfl, rfl, rfl, by decide +kernel, rfl, by decide +kernel, by decide +kernel⟩
def kw_l_version : Nat → List Str → Option (List Nat) := noKw
def q_l_version_1 : SS :=
    (sSeq (sDrop (eApp 3 (eTup (osCons (oTv (eVar 5)) (osCons (oTv (eCall F_l_hosts (aSl 0 (aTv (eVar 1) (aTv (eC (.int 4)) (aTv (eC (.bool true)) aNil)))))) osNil)))))
    sNil)
def q_l_version_2 : MB :=
    (bOp2 gtD (oTv (eCall F_l_take (aSl 0 (aTv (eC (.int 3)) aNil)))) (oTv (eC (.int 0))))
def q_l_version_3 : ME :=
    (eVar 5)
def b_l_version : SS :=
    (sSeq (sSet [0] 3 (eLst osNil))
    (sSeq (sIf (bOp2 eqD (oTv (eCall F_l_take (aSl 0 (aTv (eC (.int 3)) aNil)))) (oTv (eC (.int 0))))
    (sSeq (sDrop (eApp 3 (eTup (osCons (oTv (eC (.str ""))) (osCons (oTv (eB tupleD (osCons (oTv (eCall F_l_rising (aTv (eB listD (osCons (oTv (eCall F_l_hosts (aSl 0 (aTv (eVar 1) (aTv (eC (.int 12)) (aTv (eC (.bool false)) aNil)))))) osNil)) aNil))) osNil))) osNil)))))
    sNil)
    sNil)
    (sSeq (sSet [0] 4 (eLc [5] (iSeq (eVar 1)) (gN [] 5) q_l_version_2 q_l_version_3))
    (sSeq (sFor (iSeq (eSl (oSl 4) iNo (iSome (eOp2 subD (oSl 2) (oTv (eB lenD (osCons (oSl 3) osNil))))))) (gN [0] 5) q_l_version_1)
    (sSeq (sRet (eTup (osCons (oTv (eCall F_l_of (aSl 0 (aTv (eTup (osCons (oTv (eC (.int 0))) (osCons (oTv (eC (.int 1))) (osCons (oTv (eC (.int 998))) (osCons (oTv (eC (.int 999))) (osCons (oTv (eCall F_l_take (aSl 0 (aTv (eC (.int 1000)) aNil)))) osNil)))))) aNil)))) (osCons (oTv (eB tupleD (osCons (oSl 3) osNil))) osNil))))
    sNil)))))
def F_l_version : FnS := ⟨[true, false, false], runF 6 [true, false, false] b_l_version⟩
theorem c_l_version : cSs (cS ["well", "names", "most", "rows", "some", "name"] (co T36 ["well", "names", "most", "rows", "some", "name"] 16) [0] (defScope s_l_version) 5000000000000000000 16) (defBody s_l_version) = some b_l_version := by kernel_rfl
@[simp] theorem m_l_version : F_l_version.mask = [true, false, false] := rfl
theorem u_l_version : F_l_version.run = runF 6 [true, false, false] b_l_version := rfl
def T37 : Tab := T36.add "_law_version" F_l_version kw_l_version
theorem sc_l_text_of : FnScope ["version", "rows", "name", "hosts", "label", "under", "row"] ["version"] (defScope s_l_text_of) := ⟨rfl, rfl, rfl, by decide +kernel, rfl, by decide +kernel, by decide +kernel⟩
def kw_l_text_of : Nat → List Str → Option (List Nat) := noKw
def q_l_text_of_1 : ME :=
    (eOp2 addD (oSl 6) (oTv (eC (.str "\n"))))
def q_l_text_of_2 : ME :=
    (eOp2 addD (oTv (eOp2 addD (oSl 4) (oTv (eC (.str "."))))) (oSl 5))
def q_l_text_of_3 : SS :=
    (sSeq (sDrop (eApp 1 (eMt mjoinD (oTv (eC (.str " "))) (osCons (oTv (eOp2 addD (oTv (eLst (osCons (oTv (eIf (bOp2 eqD (oSl 2) (oTv (eC (.str "")))) (eC (.str "*")) (eVar 2))) osNil))) (oTv (eLc [4, 5] (iSeq (eVar 3)) (gTn 2 (gCons (gN [] 4) (gCons (gN [] 5) gNil))) bYes q_l_text_of_2)))) osNil))))
    sNil)
def b_l_text_of : SS :=
    (sSeq (sSet [] 1 (eLst (osCons (oTv (eOp2 addD (oTv (eC (.str "serial "))) (oTv (eB strD (osCons (oTv (eOp2 ixD (oSl 0) (oTv (eC (.int 0))))) osNil))))) osNil)))
    (sSeq (sFor (iSeq (eOp2 ixD (oSl 0) (oTv (eC (.int 1))))) (gTn 2 (gCons (gN [] 2) (gCons (gN [] 3) gNil))) q_l_text_of_3)
    (sSeq (sRet (eMt mjoinD (oTv (eC (.str ""))) (osCons (oTv (eLc [6] (iSeq (eVar 1)) (gN [] 6) bYes q_l_text_of_1)) osNil)))
    sNil)))
def F_l_text_of : FnS := ⟨[false], runF 7 [false] b_l_text_of⟩
theorem c_l_text_of : cSs (cS ["version", "rows", "name", "hosts", "label", "under", "row"] (co T37 ["version", "rows", "name", "hosts", "label", "under", "row"] 16) [] (defScope s_l_text_of) 5000000000000000000 16) (defBody s_l_text_of) = some b_l_text_of := by kernel_rfl
@[simp] theorem m_l_text_of : F_l_text_of.mask = [false] := rfl
theorem u_l_text_of : F_l_text_of.run = runF 7 [false] b_l_text_of := rfl
def T38 : Tab := T37.add "_law_text_of" F_l_text_of kw_l_text_of
def TX0 : TabX := ((TabX.nil.addC "InvalidVersion" "given").addC "InvalidText" "index")
def bx_read_version : SX :=
    (sxSeq (sxIf (bNot (bTru (oTv (eCall F_is_text (aTv (eVar 0) aNil)))))
    (sxSeq (sxRaise "InvalidText" "index" (eC .none))
    (sxN sNil))
    (sxN sNil))
    (sxSeq (sxN (sSet [] 1 (eMt splitD (oSl 0) (osCons (oTv (eC (.str "\n"))) osNil))))
    (sxSeq (sxN (sAsg (eCall F_read_lines (aTv (eSl (oSl 1) iNo (iSome (eOp1 negD (oTv (eC (.int 1)))))) aNil)) (gTn 2 (gCons (gN [] 2) (gCons (gN [] 3) gNil)))))
    (sxSeq (sxIf (bOp2 isNotD (oSl 3) (oTv (eC .none)))
    (sxSeq (sxRaise "InvalidText" "index" (eVar 3))
    (sxN sNil))
    (sxN sNil))
    (sxSeq (sxIf (bOp2 neD (oTv (eOp2 ixD (oSl 1) (oTv (eOp1 negD (oTv (eC (.int 1))))))) (oTv (eC (.str ""))))
    (sxSeq (sxRaise "InvalidText" "index" (eOp2 subD (oTv (eB lenD (osCons (oSl 1) osNil))) (oTv (eC (.int 1)))))
    (sxN sNil))
    (sxN sNil))
    (sxSeq (sxN (sRetV [] 2))
    (sxN sNil)))))))
def FX_read_version : FnX := ⟨1, runX 4 1 bx_read_version⟩
theorem cx_read_version : cXss (cXs TX0 ["text", "lines", "version", "wrong"] (co T38 ["text", "lines", "version", "wrong"] 16) [] (defScope s_read_version) 5000000000000000000 16) (defBody s_read_version) = some bx_read_version := by kernel_rfl
theorem ux_read_version : FX_read_version.run = runX 4 1 bx_read_version := rfl
@[simp] theorem nx_read_version : FX_read_version.n = 1 := rfl
def TX1 : TabX := TX0.add "read_version" FX_read_version (kw_read_version 0)
theorem sc_l_asked : FnScope ["text", "way", "e"] ["text", "way"] (defScope s_l_asked) := ⟨rfl, rfl, rfl, by decide +kernel, rfl, by decide +kernel, by decide +kernel⟩
def kw_l_asked : Nat → List Str → Option (List Nat) := noKw
def bt_l_asked : SX :=
    (sxSeq (sxRet (xTup2 (eC (.str "told")) (xIf (bOp2 eqD (oSl 1) (oTv (eC (.int 0)))) (xCall FX_read_version (osCons (oTv (eVar 0)) osNil)) (xCallK FX_read_version 1 [0] (osCons (oTv (eVar 0)) osNil)))))
    (sxN sNil))
def b_l_asked : SS :=
    (sSeq (sTry "InvalidText" "index" (.str "text") 2 bt_l_asked) sNil)
def F_l_asked : FnS := ⟨[false, false], runF 3 [false, false] b_l_asked⟩
theorem c_l_asked : cTry TX1 ["text", "way", "e"] (co T38 ["text", "way", "e"] 16) [] (defScope s_l_asked) 5000000000000000000 16 (defBody s_l_asked) = (some (bt_l_asked, "InvalidText", "index", (.str "text"), 2) : Option (SX × Str × Str × D × Nat)) := by kernel_rfl
@[simp] theorem m_l_asked : F_l_asked.mask = [false, false] := rfl
theorem u_l_asked : F_l_asked.run = runF 3 [false, false] b_l_asked := rfl
def T39 : Tab := T38.add "_law_asked" F_l_asked kw_l_asked
theorem sc_l_is_name : FnScope ["value", "letters", "sign"] ["value"] (defScope s_l_is_name) := ⟨rfl, rfl, rfl, by decide +kernel, rfl, by decide +kernel, by decide +kernel⟩
def kw_l_is_name : Nat → List Str → Option (List Nat) := noKw
def q_l_is_name_1 : ME :=
    (eOp2 inD (oSl 2) (oSl 1))
def b_l_is_name : SS :=
    (sSeq (sSet [] 1 (eC (.str "abcdefghijklmnopqrstuvwxyz")))
    (sSeq (sRet (eAnd (eIsi ["str"] (oSl 0)) (eAnd (eChain ltD ltD (oTv (eC (.int 0))) (oTv (eB lenD (osCons (oSl 0) osNil))) (oTv (eC (.int 9)))) (eB allD (osCons (oTv (eLc [2] (iSeq (eVar 0)) (gN [] 2) bYes q_l_is_name_1)) osNil)))))
    sNil))
def F_l_is_name : FnS := ⟨[false], runF 3 [false] b_l_is_name⟩
theorem c_l_is_name : cSs (cS ["value", "letters", "sign"] (co T39 ["value", "letters", "sign"] 16) [] (defScope s_l_is_name) 5000000000000000000 16) (defBody s_l_is_name) = some b_l_is_name := by kernel_rfl
@[simp] theorem m_l_is_name : F_l_is_name.mask = [false] := rfl
theorem u_l_is_name : F_l_is_name.run = runF 3 [false] b_l_is_name := rfl
def T40 : Tab := T39.add "_law_is_name" F_l_is_name kw_l_is_name
theorem sc_l_are_hosts : FnScope ["value", "outside", "most", "host"] ["value", "outside", "most"] (defScope s_l_are_hosts) := ⟨rfl, rfl, rfl, by decide +kernel, rfl, by decide +kernel, by decide +kernel⟩
def kw_l_are_hosts : Nat → List Str → Option (List Nat) := noKw
def q_l_are_hosts_1 : SS :=
    (sSeq (sIf (bOr (bNot (bTru (oTv (eIsi ["tuple"] (oSl 3))))) (bOr (bOp2 neD (oTv (eB lenD (osCons (oSl 3) osNil))) (oTv (eC (.int 2)))) (bNot (bTru (oTv (eCall F_l_is_name (aTv (eOp2 ixD (oSl 3) (oTv (eC (.int 0)))) aNil)))))))
    (sSeq (sRet (eC (.bool false)))
    sNil)
    sNil)
    (sSeq (sIf (bAnd (bNot (bTru (oTv (eCall F_l_is_name (aTv (eOp2 ixD (oSl 3) (oTv (eC (.int 1)))) aNil))))) (bNot (bAnd (bTru (oSl 1)) (bAnd (bTru (oTv (eIsi ["str"] (oTv (eOp2 ixD (oSl 3) (oTv (eC (.int 1)))))))) (bOp2 eqD (oTv (eOp2 ixD (oSl 3) (oTv (eC (.int 1))))) (oTv (eC (.str ""))))))))
    (sSeq (sRet (eC (.bool false)))
    sNil)
    sNil)
    sNil))
def b_l_are_hosts : SS :=
    (sSeq (sIf (bOr (bNot (bTru (oTv (eIsi ["tuple"] (oSl 0))))) (bOp2 gtD (oTv (eB lenD (osCons (oSl 0) osNil))) (oSl 2)))
    (sSeq (sRet (eC (.bool false)))
    sNil)
    sNil)
    (sSeq (sFor (iSeq (eVar 0)) (gN [] 3) q_l_are_hosts_1)
    (sSeq (sRet (eC (.bool true)))
    sNil)))
def F_l_are_hosts : FnS := ⟨[false, false, false], runF 4 [false, false, false] b_l_are_hosts⟩
theorem c_l_are_hosts : cSs (cS ["value", "outside", "most", "host"] (co T40 ["value", "outside", "most", "host"] 16) [] (defScope s_l_are_hosts) 5000000000000000000 16) (defBody s_l_are_hosts) = some b_l_are_hosts := by kernel_rfl
@[simp] theorem m_l_are_hosts : F_l_are_hosts.mask = [false, false, false] := rfl
theorem u_l_are_hosts : F_l_are_hosts.run = runF 4 [false, false, false] b_l_are_hosts := rfl
def T41 : Tab := T40.add "_law_are_hosts" F_l_are_hosts kw_l_are_hosts
theorem sc_l_are_rows : FnScope ["value", "last", "row", "at"] ["value"] (defScope s_l_are_rows) := ⟨rfl, rfl, rfl, by decide +kernel, rfl, by decide +kernel, by decide +kernel⟩
def kw_l_are_rows : Nat → List Str → Option (List Nat) := noKw
def q_l_are_rows_1 : ME :=
    (eOp2 ltD (oTv (eOp2 ixD (oTv (eOp2 ixD (oSl 2) (oTv (eC (.int 1))))) (oSl 3))) (oTv (eOp2 ixD (oTv (eOp2 ixD (oSl 2) (oTv (eC (.int 1))))) (oTv (eOp2 addD (oSl 3) (oTv (eC (.int 1))))))))
def q_l_are_rows_2 : ME :=
    (eOp2 notInD (oTv (eOp2 ixD (oTv (eOp2 ixD (oSl 2) (oTv (eC (.int 1))))) (oSl 3))) (oTv (eSl (oTv (eOp2 ixD (oSl 2) (oTv (eC (.int 1))))) iNo (iSome (eVar 3)))))
def q_l_are_rows_3 : SS :=
    (sSeq (sIf (bOr (bNot (bTru (oTv (eIsi ["tuple"] (oSl 2))))) (bOr (bOp2 neD (oTv (eB lenD (osCons (oSl 2) osNil))) (oTv (eC (.int 2)))) (bNot (bTru (oTv (eIsi ["str"] (oTv (eOp2 ixD (oSl 2) (oTv (eC (.int 0)))))))))))
    (sSeq (sRet (eC (.bool false)))
    sNil)
    sNil)
    (sSeq (sIf (bOp2 eqD (oTv (eOp2 ixD (oSl 2) (oTv (eC (.int 0))))) (oTv (eC (.str ""))))
    (sSeq (sIf (bOr (bOp2 isNotD (oSl 1) (oTv (eC .none))) (bNot (bTru (oTv (eCall F_l_are_hosts (aTv (eOp2 ixD (oSl 2) (oTv (eC (.int 1)))) (aTv (eC (.bool false)) (aTv (eC (.int 12)) aNil))))))))
    (sSeq (sRet (eC (.bool false)))
    sNil)
    sNil)
    (sSeq (sIf (bNot (bTru (oTv (eB allD (osCons (oTv (eLc [3] (iFn rng1 (osCons (oTv (eOp2 subD (oTv (eB lenD (osCons (oTv (eOp2 ixD (oSl 2) (oTv (eC (.int 1))))) osNil))) (oTv (eC (.int 1))))) osNil)) (gN [] 3) bYes q_l_are_rows_1)) osNil)))))
    (sSeq (sRet (eC (.bool false)))
    sNil)
    sNil)
    sNil))
    (sSeq (sIf (bOr (bNot (bTru (oTv (eCall F_l_is_name (aTv (eOp2 ixD (oSl 2) (oTv (eC (.int 0)))) aNil))))) (bOr (bAnd (bOp2 isNotD (oSl 1) (oTv (eC .none))) (bOp2 leD (oTv (eOp2 ixD (oSl 2) (oTv (eC (.int 0))))) (oSl 1))) (bNot (bTru (oTv (eCall F_l_are_hosts (aTv (eOp2 ixD (oSl 2) (oTv (eC (.int 1)))) (aTv (eC (.bool true)) (aTv (eC (.int 4)) aNil)))))))))
    (sSeq (sRet (eC (.bool false)))
    sNil)
    (sSeq (sIf (bNot (bTru (oTv (eB allD (osCons (oTv (eLc [3] (iFn rng1 (osCons (oTv (eB lenD (osCons (oTv (eOp2 ixD (oSl 2) (oTv (eC (.int 1))))) osNil))) osNil)) (gN [] 3) bYes q_l_are_rows_2)) osNil)))))
    (sSeq (sRet (eC (.bool false)))
    sNil)
    sNil)
    sNil))
    sNil))
    (sSeq (sSet [] 1 (eOp2 ixD (oSl 2) (oTv (eC (.int 0)))))
    sNil)))
def b_l_are_rows : SS :=
    (sSeq (sIf (bOr (bNot (bTru (oTv (eIsi ["tuple"] (oSl 0))))) (bOp2 gtD (oTv (eB lenD (osCons (oSl 0) osNil))) (oTv (eC (.int 9)))))
    (sSeq (sRet (eC (.bool false)))
    sNil)
    sNil)
    (sSeq (sSet [] 1 (eC .none))
    (sSeq (sFor (iSeq (eVar 0)) (gN [] 2) q_l_are_rows_3)
    (sSeq (sRet (eC (.bool true)))
    sNil))))
def F_l_are_rows : FnS := ⟨[false], runF 4 [false] b_l_are_rows⟩
theorem c_l_are_rows : cSs (cS ["value", "last", "row", "at"] (co T41 ["value", "last", "row", "at"] 16) [] (defScope s_l_are_rows) 5000000000000000000 16) (defBody s_l_are_rows) = some b_l_are_rows := by kernel_rfl
@[simp] theorem m_l_are_rows : F_l_are_rows.mask = [false] := rfl
theorem u_l_are_rows : F_l_are_rows.run = runF 4 [false] b_l_are_rows := rfl
def T42 : Tab := T41.add "_law_are_rows" F_l_are_rows kw_l_are_rows
theorem sc_l_host_of : FnScope ["word", "parts"] ["word"] (defScope s_l_host_of) := ⟨rfl, rfl, rfl, by decide +kernel, rfl, by decide +kernel, by decide +kernel⟩
def kw_l_host_of : Nat → List Str → Option (List Nat) := noKw
def b_l_host_of : SS :=
    (sSeq (sSet [] 1 (eMt splitD (oSl 0) (osCons (oTv (eC (.str "."))) osNil)))
    (sSeq (sIf (bOr (bOp2 neD (oTv (eB lenD (osCons (oSl 1) osNil))) (oTv (eC (.int 2)))) (bOr (bNot (bTru (oTv (eCall F_l_is_name (aTv (eOp2 ixD (oSl 1) (oTv (eC (.int 0)))) aNil))))) (bAnd (bOp2 neD (oTv (eOp2 ixD (oSl 1) (oTv (eC (.int 1))))) (oTv (eC (.str "")))) (bNot (bTru (oTv (eCall F_l_is_name (aTv (eOp2 ixD (oSl 1) (oTv (eC (.int 1)))) aNil))))))))
    (sSeq (sRet (eC .none))
    sNil)
    sNil)
    (sSeq (sRet (eTup (osCons (oTv (eOp2 ixD (oSl 1) (oTv (eC (.int 0))))) (osCons (oTv (eOp2 ixD (oSl 1) (oTv (eC (.int 1))))) osNil))))
    sNil)))
def F_l_host_of : FnS := ⟨[false], runF 2 [false] b_l_host_of⟩
theorem c_l_host_of : cSs (cS ["word", "parts"] (co T42 ["word", "parts"] 16) [] (defScope s_l_host_of) 5000000000000000000 16) (defBody s_l_host_of) = some b_l_host_of := by kernel_rfl
@[simp] theorem m_l_host_of : F_l_host_of.mask = [false] := rfl
theorem u_l_host_of : F_l_host_of.run = runF 2 [false] b_l_host_of := rfl
def T43 : Tab := T42.add "_law_host_of" F_l_host_of kw_l_host_of
theorem sc_l_row_of : FnScope ["row", "words", "hosts", "word", "host"] ["row"] (defScope s_l_row_of) := ⟨rfl, rfl, rfl, by decide +kernel, rfl, by decide +kernel, by decide +kernel⟩
def kw_l_row_of : Nat → List Str → Option (List Nat) := noKw
def q_l_row_of_1 : ME :=
    (eOp2 isD (oSl 4) (oTv (eC .none)))
def q_l_row_of_2 : ME :=
    (eCall F_l_host_of (aTv (eVar 3) aNil))
def b_l_row_of : SS :=
    (sSeq (sSet [] 1 (eMt splitD (oSl 0) (osCons (oTv (eC (.str " "))) osNil)))
    (sSeq (sSet [] 2 (eLc [3] (iSeq (eSl (oSl 1) (iSome (eC (.int 1))) iNo)) (gN [] 3) bYes q_l_row_of_2))
    (sSeq (sIf (bOr (bTru (oTv (eB anyD (osCons (oTv (eLc [4] (iSeq (eVar 2)) (gN [] 4) bYes q_l_row_of_1)) osNil)))) (bAnd (bOp2 neD (oTv (eOp2 ixD (oSl 1) (oTv (eC (.int 0))))) (oTv (eC (.str "*")))) (bNot (bTru (oTv (eCall F_l_is_name (aTv (eOp2 ixD (oSl 1) (oTv (eC (.int 0)))) aNil)))))))
    (sSeq (sRet (eC .none))
    sNil)
    sNil)
    (sSeq (sRet (eTup (osCons (oTv (eIf (bOp2 eqD (oTv (eOp2 ixD (oSl 1) (oTv (eC (.int 0))))) (oTv (eC (.str "*")))) (eC (.str "")) (eOp2 ixD (oSl 1) (oTv (eC (.int 0)))))) (osCons (oTv (eB tupleD (osCons (oSl 2) osNil))) osNil))))
    sNil))))
def F_l_row_of : FnS := ⟨[false], runF 5 [false] b_l_row_of⟩
theorem c_l_row_of : cSs (cS ["row", "words", "hosts", "word", "host"] (co T43 ["row", "words", "hosts", "word", "host"] 16) [] (defScope s_l_row_of) 5000000000000000000 16) (defBody s_l_row_of) = some b_l_row_of := by kernel_rfl
@[simp] theorem m_l_row_of : F_l_row_of.mask = [false] := rfl
theorem u_l_row_of : F_l_row_of.run = runF 5 [false] b_l_row_of := rfl
def T44 : Tab := T43.add "_law_row_of" F_l_row_of kw_l_row_of
theorem sc_l_serial_of : FnScope ["row", "words", "sign"] ["row"] (defScope s_l_serial_of) := ⟨rfl, rfl, rfl, by decide +kernel, rfl, by decide +kernel, by decide +kernel⟩
def kw_l_serial_of : Nat → List Str → Option (List Nat) := noKw
def q_l_serial_of_1 : ME :=
    (eOp2 inD (oSl 2) (oTv (eC (.str "0123456789"))))
def b_l_serial_of : SS :=
    (sSeq (sSet [] 1 (eMt splitD (oSl 0) (osCons (oTv (eC (.str " "))) osNil)))
    (sSeq (sIf (bOr (bOp2 neD (oTv (eB lenD (osCons (oSl 1) osNil))) (oTv (eC (.int 2)))) (bOr (bOp2 neD (oTv (eOp2 ixD (oSl 1) (oTv (eC (.int 0))))) (oTv (eC (.str "serial")))) (bOr (bOp2 gtD (oTv (eB lenD (osCons (oTv (eOp2 ixD (oSl 1) (oTv (eC (.int 1))))) osNil))) (oTv (eC (.int 3)))) (bOp2 eqD (oTv (eOp2 ixD (oSl 1) (oTv (eC (.int 1))))) (oTv (eC (.str "")))))))
    (sSeq (sRet (eC .none))
    sNil)
    sNil)
    (sSeq (sIf (bOr (bNot (bTru (oTv (eB allD (osCons (oTv (eLc [2] (iSeq (eOp2 ixD (oSl 1) (oTv (eC (.int 1))))) (gN [] 2) bYes q_l_serial_of_1)) osNil))))) (bAnd (bOp2 gtD (oTv (eB lenD (osCons (oTv (eOp2 ixD (oSl 1) (oTv (eC (.int 1))))) osNil))) (oTv (eC (.int 1)))) (bOp2 eqD (oTv (eOp2 ixD (oTv (eOp2 ixD (oSl 1) (oTv (eC (.int 1))))) (oTv (eC (.int 0))))) (oTv (eC (.str "0"))))))
    (sSeq (sRet (eC .none))
    sNil)
    sNil)
    (sSeq (sRet (eB intD (osCons (oTv (eOp2 ixD (oSl 1) (oTv (eC (.int 1))))) osNil)))
    sNil))))
def F_l_serial_of : FnS := ⟨[false], runF 3 [false] b_l_serial_of⟩
theorem c_l_serial_of : cSs (cS ["row", "words", "sign"] (co T44 ["row", "words", "sign"] 16) [] (defScope s_l_serial_of) 5000000000000000000 16) (defBody s_l_serial_of) = some b_l_serial_of := by kernel_rfl
@[simp] theorem m_l_serial_of : F_l_serial_of.mask = [false] := rfl
theorem u_l_serial_of : F_l_serial_of.run = runF 3 [false] b_l_serial_of := rfl
def T45 : Tab := T44.add "_law_serial_of" F_l_serial_of kw_l_serial_of
theorem sc_l_read : FnScope ["text", "parts", "rows", "found", "serial", "at", "row", "more"] ["text"] (defScope s_l_read) := ⟨rfl, rfl, rfl, by decide +kernel, rfl, by decide +kernel, by decide +kernel⟩
def kw_l_read : Nat → List Str → Option (List Nat) := noKw
def q_l_read_1 : SS :=
    (sSeq (sIf (bOp2 eqD (oSl 5) (oTv (eC (.int 0))))
    (sSeq (sSet [] 4 (eCall F_l_serial_of (aTv (eVar 6) aNil)))
    (sSeq (sIf (bOp2 isD (oSl 4) (oTv (eC .none)))
    (sSeq (sRet (eTup (osCons (oTv (eC (.str "text"))) (osCons (oTv (eC (.int 0))) osNil))))
    sNil)
    sNil)
    sNil))
    (sSeq (sSet [] 7 (eCall F_l_row_of (aTv (eVar 6) aNil)))
    (sSeq (sIf (bOr (bOp2 isD (oSl 7) (oTv (eC .none))) (bNot (bTru (oTv (eCall F_l_are_rows (aTv (eB tupleD (osCons (oTv (eOp2 addD (oSl 3) (oTv (eLst (osCons (oTv (eVar 7)) osNil))))) osNil)) aNil))))))
    (sSeq (sRet (eTup (osCons (oTv (eC (.str "text"))) (osCons (oTv (eVar 5)) osNil))))
    sNil)
    sNil)
    (sSeq (sDrop (eApp 3 (eVar 7)))
    sNil))))
    sNil)
def b_l_read : SS :=
    (sSeq (sSet [] 1 (eMt splitD (oSl 0) (osCons (oTv (eC (.str "\n"))) osNil)))
    (sSeq (sPar [] [2, 3, 4] (aRv (eSl (oSl 1) iNo (iSome (eOp1 negD (oTv (eC (.int 1)))))) (aRv (eLst osNil) (aRv (eC (.int 0)) aNil))))
    (sSeq (sFor (iFn enuD (osCons (oTv (eVar 2)) osNil)) (gTn 2 (gCons (gN [] 5) (gCons (gN [] 6) gNil))) q_l_read_1)
    (sSeq (sIf (bOr (bOp2 neD (oTv (eOp2 ixD (oSl 1) (oTv (eOp2 subD (oTv (eB lenD (osCons (oSl 1) osNil))) (oTv (eC (.int 1))))))) (oTv (eC (.str "")))) (bOp2 eqD (oSl 2) (oTv (eLst osNil))))
    (sSeq (sRet (eTup (osCons (oTv (eC (.str "text"))) (osCons (oTv (eB lenD (osCons (oSl 2) osNil))) osNil))))
    sNil)
    sNil)
    (sSeq (sRet (eTup (osCons (oTv (eC (.str "told"))) (osCons (oTv (eTup (osCons (oTv (eVar 4)) (osCons (oTv (eB tupleD (osCons (oSl 3) osNil))) osNil)))) osNil))))
    sNil)))))
def F_l_read : FnS := ⟨[false], runF 8 [false] b_l_read⟩
theorem c_l_read : cSs (cS ["text", "parts", "rows", "found", "serial", "at", "row", "more"] (co T45 ["text", "parts", "rows", "found", "serial", "at", "row", "more"] 16) [] (defScope s_l_read) 5000000000000000000 16) (defBody s_l_read) = some b_l_read := by kernel_rfl
@[simp] theorem m_l_read : F_l_read.mask = [false] := rfl
theorem u_l_read : F_l_read.run = runF 8 [false] b_l_read := rfl
def T46 : Tab := T45.add "_law_read" F_l_read kw_l_read
theorem sc_l_is_told : FnScope ["well", "text"] ["well", "text"] (defScope s_l_is_told) := ⟨rfl, rfl, rfl, by decide +kernel, rfl, by decide +kernel, by decide +kernel⟩
def kw_l_is_told : Nat → List Str → Option (List Nat) := noKw
def b_l_is_told : SS :=
    (sSeq (sRet (eCall F_l_same (aTv (eCall F_l_asked (aTv (eVar 1) (aTv (eCall F_l_take (aSl 0 (aTv (eC (.int 2)) aNil))) aNil))) (aTv (eCall F_l_read (aTv (eVar 1) aNil)) aNil))))
    sNil)
def F_l_is_told : FnS := ⟨[true, false], runF 2 [true, false] b_l_is_told⟩
theorem c_l_is_told : cSs (cS ["well", "text"] (co T46 ["well", "text"] 16) [0] (defScope s_l_is_told) 5000000000000000000 16) (defBody s_l_is_told) = some b_l_is_told := by kernel_rfl
@[simp] theorem m_l_is_told : F_l_is_told.mask = [true, false] := rfl
theorem u_l_is_told : F_l_is_told.run = runF 2 [true, false] b_l_is_told := rfl
def T47 : Tab := T46.add "_law_is_told" F_l_is_told kw_l_is_told
theorem sc_l_bent : FnScope ["well", "text", "way", "at", "signs", "sign", "rows", "one"] ["well", "text"] (defScope s_l_bent) := ⟨rfl, rfl, rfl, by decide +kernel, rfl, by decide +kernel, by decide +kernel⟩
def kw_l_bent : Nat → List Str → Option (List Nat) := noKw
def b_l_bent : SS :=
    (sSeq (sPar [0] [2, 3] (aRv (eCall F_l_take (aSl 0 (aTv (eC (.int 9)) aNil))) (aRv (eCall F_l_take (aSl 0 (aTv (eOp2 addD (oTv (eB lenD (osCons (oSl 1) osNil))) (oTv (eC (.int 1)))) aNil))) aNil)))
    (sSeq (sSet [0] 4 (eC (.str " \n.*0a1zA-9qns")))
    (sSeq (sSet [0] 5 (eOp2 ixD (oSl 4) (oTv (eCall F_l_take (aSl 0 (aTv (eB lenD (osCons (oSl 4) osNil)) aNil))))))
    (sSeq (sIf (bOp2 ltD (oSl 2) (oTv (eC (.int 3))))
    (sSeq (sRet (eOp2 addD (oTv (eOp2 addD (oTv (eSl (oSl 1) iNo (iSome (eVar 3)))) (oSl 5))) (oTv (eSl (oSl 1) (iSome (eOp2 addD (oSl 3) (oSl 2))) iNo))))
    sNil)
    sNil)
    (sSeq (sIf (bOp2 eqD (oSl 2) (oTv (eC (.int 3))))
    (sSeq (sRet (eOp2 addD (oTv (eSl (oSl 1) iNo (iSome (eVar 3)))) (oTv (eSl (oSl 1) (iSome (eOp2 addD (oSl 3) (oTv (eC (.int 1))))) iNo))))
    sNil)
    sNil)
    (sSeq (sSet [0] 6 (eMt splitD (oSl 1) (osCons (oTv (eC (.str "\n"))) osNil)))
    (sSeq (sSet [0] 7 (eCall F_l_take (aSl 0 (aTv (eB lenD (osCons (oSl 6) osNil)) aNil))))
    (sSeq (sIf (bOp2 eqD (oSl 2) (oTv (eC (.int 4))))
    (sSeq (sRet (eMt mjoinD (oTv (eC (.str "\n"))) (osCons (oTv (eOp2 addD (oTv (eSl (oSl 6) iNo (iSome (eVar 7)))) (oTv (eSl (oSl 6) (iSome (eOp2 addD (oSl 7) (oTv (eC (.int 1))))) iNo)))) osNil)))
    sNil)
    sNil)
    (sSeq (sIf (bOp2 eqD (oSl 2) (oTv (eC (.int 5))))
    (sSeq (sRet (eMt mjoinD (oTv (eC (.str "\n"))) (osCons (oTv (eOp2 addD (oTv (eSl (oSl 6) iNo (iSome (eOp2 addD (oSl 7) (oTv (eC (.int 1))))))) (oTv (eSl (oSl 6) (iSome (eVar 7)) iNo)))) osNil)))
    sNil)
    sNil)
    (sSeq (sIf (bOp2 eqD (oSl 2) (oTv (eC (.int 6))))
    (sSeq (sRet (eMt mjoinD (oTv (eC (.str "\n"))) (osCons (oTv (eOp1 revD (oSl 6))) osNil)))
    sNil)
    sNil)
    (sSeq (sRet (eIf (bOp2 eqD (oSl 2) (oTv (eC (.int 7)))) (eSl (oSl 1) iNo (iSome (eVar 3))) (eOp2 addD (oSl 1) (oTv (eCall F_l_of (aSl 0 (aTv (eTup (osCons (oTv (eC (.str "\n"))) (osCons (oTv (eC (.str "zz\n"))) (osCons (oTv (eC (.str "zzzzzzzz ns.\n"))) (osCons (oTv (eC (.str "*\n"))) (osCons (oTv (eC (.str "zz"))) (osCons (oTv (eC (.str "serial 1\n"))) (osCons (oTv (eC (.str "zz ns. ns.\n"))) (osCons (oTv (eC (.str "zz  ns.\n"))) osNil))))))))) aNil)))))))
    sNil)))))))))))
def F_l_bent : FnS := ⟨[true, false], runF 8 [true, false] b_l_bent⟩
theorem c_l_bent : cSs (cS ["well", "text", "way", "at", "signs", "sign", "rows", "one"] (co T47 ["well", "text", "way", "at", "signs", "sign", "rows", "one"] 16) [0] (defScope s_l_bent) 5000000000000000000 16) (defBody s_l_bent) = some b_l_bent := by kernel_rfl
@[simp] theorem m_l_bent : F_l_bent.mask = [true, false] := rfl
theorem u_l_bent : F_l_bent.run = runF 8 [true, false] b_l_bent := rfl
def T48 : Tab := T47.add "_law_bent" F_l_bent kw_l_bent
theorem sc_l_edges : FnScope ["well", "names", "nine", "found", "glue", "four", "name"] ["well"] (defScope s_l_edges) := ⟨rfl, rfl, rfl, by decide +kernel, rfl, by decide +kernel, by decide +kernel⟩
def kw_l_edges : Nat → List Str → Option (List Nat) := noKw
def q_l_edges_1 : ME :=
    (eOp2 addD (oTv (eC (.str " ns."))) (oSl 6))
def q_l_edges_2 : ME :=
    (eOp2 addD (oSl 6) (oTv (eC (.str "\n"))))
def b_l_edges : SS :=
    (sSeq (sSet [0] 1 (eCall F_l_names (aSl 0 (aTv (eC (.int 13)) aNil))))
    (sSeq (sSet [0] 2 (eMt mjoinD (oTv (eC (.str ""))) (osCons (oTv (eLc [6] (iSeq (eSl (oSl 1) iNo (iSome (eC (.int 9))))) (gN [] 6) bYes q_l_edges_2)) osNil)))
    (sSeq (sSet [0] 3 (eLst (osCons (oTv (eC (.str ""))) (osCons (oTv (eC (.str "\n"))) (osCons (oTv (eC (.str "serial 0\n"))) (osCons (oTv (eC (.str "serial 999\n"))) (osCons (oTv (eC (.str "serial 1000\n"))) (osCons (oTv (eC (.str "serial 00\n"))) (osCons (oTv (eC (.str "serial 07\n"))) (osCons (oTv (eC (.str "serial\n"))) (osCons (oTv (eC (.str "serial \n"))) (osCons (oTv (eC (.str "serial 1"))) osNil))))))))))))
    (sSeq (sSet [0] 3 (eOp2 addD (oSl 3) (oTv (eLst (osCons (oTv (eC (.str "Serial 1\n"))) (osCons (oTv (eC (.str "serial 1 \n"))) (osCons (oTv (eC (.str " serial 1\n"))) (osCons (oTv (eC (.str "serial  1\n"))) (osCons (oTv (eC (.str "serial -1\n"))) (osCons (oTv (eC (.str "serial 1_0\n"))) (osCons (oTv (eC (.str "serial +1\n"))) (osCons (oTv (eC (.str "serial 1\n\n"))) osNil))))))))))))
    (sSeq (sSet [0] 3 (eOp2 addD (oSl 3) (oTv (eLst (osCons (oTv (eOp2 addD (oTv (eC (.str "serial 1\n"))) (oSl 2))) (osCons (oTv (eOp2 addD (oTv (eOp2 addD (oTv (eOp2 addD (oTv (eC (.str "serial 1\n"))) (oSl 2))) (oTv (eOp2 ixD (oSl 1) (oTv (eC (.int 9))))))) (oTv (eC (.str "\n"))))) (osCons (oTv (eOp2 addD (oTv (eOp2 addD (oTv (eC (.str "serial 1\n"))) (oSl 2))) (oTv (eOp2 ixD (oSl 1) (oTv (eC (.int 9))))))) (osCons (oTv (eOp2 addD (oTv (eC (.str "serial 1\n*\n"))) (oSl 2))) osNil))))))))
    (sSeq (sSet [0] 4 (eOp2 addD (oTv (eC (.str "*"))) (oTv (eMt mjoinD (oTv (eC (.str ""))) (osCons (oTv (eLc [6] (iSeq (eSl (oSl 1) iNo (iSome (eC (.int 12))))) (gN [] 6) bYes q_l_edges_1)) osNil)))))
    (sSeq (sSet [0] 3 (eOp2 addD (oSl 3) (oTv (eLst (osCons (oTv (eOp2 addD (oTv (eOp2 addD (oTv (eC (.str "serial 1\n"))) (oSl 4))) (oTv (eC (.str "\n"))))) (osCons (oTv (eOp2 addD (oTv (eOp2 addD (oTv (eOp2 addD (oTv (eOp2 addD (oTv (eC (.str "serial 1\n"))) (oSl 4))) (oTv (eC (.str " ns."))))) (oTv (eOp2 ixD (oSl 1) (oTv (eC (.int 12))))))) (oTv (eC (.str "\n"))))) (osCons (oTv (eC (.str "serial 1\n* ns.\n"))) (osCons (oTv (eOp2 addD (oTv (eOp2 addD (oTv (eC (.str "serial 1\n"))) (oTv (eOp2 ixD (oSl 1) (oTv (eC (.int 0))))))) (oTv (eC (.str "\n*\n"))))) osNil))))))))
    (sSeq (sSet [0] 3 (eOp2 addD (oSl 3) (oTv (eLst (osCons (oTv (eOp2 addD (oTv (eOp2 addD (oTv (eOp2 addD (oTv (eOp2 addD (oTv (eC (.str "serial 1\n* ns."))) (oTv (eOp2 ixD (oSl 1) (oTv (eC (.int 1))))))) (oTv (eC (.str " ns."))))) (oTv (eOp2 ixD (oSl 1) (oTv (eC (.int 0))))))) (oTv (eC (.str "\n"))))) (osCons (oTv (eC (.str "serial 1\n*\n*\n"))) (osCons (oTv (eC (.str "serial 1\n* \n"))) (osCons (oTv (eC (.str "serial 1\n*ns.a\n"))) osNil))))))))
    (sSeq (sSet [0] 5 (eOp2 addD (oTv (eOp2 addD (oTv (eOp2 addD (oTv (eC (.str " a."))) (oTv (eC (.str " b."))))) (oTv (eC (.str " c."))))) (oTv (eC (.str " d.")))))
    (sSeq (sSet [0] 3 (eOp2 addD (oSl 3) (oTv (eLst (osCons (oTv (eOp2 addD (oTv (eOp2 addD (oTv (eC (.str "serial 1\nann"))) (oSl 5))) (oTv (eC (.str "\n"))))) (osCons (oTv (eOp2 addD (oTv (eOp2 addD (oTv (eC (.str "serial 1\nann"))) (oSl 5))) (oTv (eC (.str " e.\n"))))) (osCons (oTv (eC (.str "serial 1\nann a. a.\n"))) (osCons (oTv (eC (.str "serial 1\nann b. a.\n"))) osNil))))))))
    (sSeq (sSet [0] 3 (eOp2 addD (oSl 3) (oTv (eLst (osCons (oTv (eC (.str "serial 1\nann .a\n"))) (osCons (oTv (eC (.str "serial 1\nann a\n"))) (osCons (oTv (eC (.str "serial 1\nann a.b.c\n"))) (osCons (oTv (eC (.str "serial 1\nabcdefghi\n"))) (osCons (oTv (eC (.str "serial 1\nAnn\n"))) (osCons (oTv (eC (.str "serial 1\nann a..\n"))) osNil))))))))))
    (sSeq (sRet (eOp2 addD (oSl 3) (oTv (eLst (osCons (oTv (eC (.str "serial 1\nben\nann\n"))) (osCons (oTv (eC (.str "serial 1\nann\nann a.\n"))) (osCons (oTv (eC (.str "serial 1\nann \n"))) (osCons (oTv (eC (.str "serial 1\nann\u0009b.\n"))) (osCons (oTv (eC (.str "serial 1\u0009\n"))) osNil)))))))))
    sNil))))))))))))
def F_l_edges : FnS := ⟨[true], runF 7 [true] b_l_edges⟩
theorem c_l_edges : cSs (cS ["well", "names", "nine", "found", "glue", "four", "name"] (co T48 ["well", "names", "nine", "found", "glue", "four", "name"] 16) [0] (defScope s_l_edges) 5000000000000000000 16) (defBody s_l_edges) = some b_l_edges := by kernel_rfl
@[simp] theorem m_l_edges : F_l_edges.mask = [true] := rfl
theorem u_l_edges : F_l_edges.run = runF 7 [true] b_l_edges := rfl
def T49 : Tab := T48.add "_law_edges" F_l_edges kw_l_edges
theorem sc_l_right : FnScope ["well", "text", "odd", "turn", "names", "version", "each"] ["well"] (defScope s_l_right) := ⟨rfl, rfl, rfl, by decide +kernel, rfl, by decide +kernel, by decide +kernel⟩
def kw_l_right : Nat → List Str → Option (List Nat) := noKw
def q_l_right_1 : SS :=
    (sSeq (sIf (bNot (bTru (oTv (eCall F_l_is_told (aSl 0 (aTv (eCall F_l_bent (aSl 0 (aTv (eVar 1) aNil))) aNil))))))
    (sSeq (sRet (eC (.bool false)))
    sNil)
    sNil)
    sNil)
def q_l_right_2 : SS :=
    (sSeq (sSet [0] 4 (eCall F_l_names (aSl 0 (aTv (eOp2 addD (oTv (eC (.int 2))) (oTv (eCall F_l_take (aSl 0 (aTv (eC (.int 10)) aNil))))) aNil))))
    (sSeq (sSet [0] 5 (eCall F_l_version (aSl 0 (aTv (eVar 4) (aTv (eC (.int 9)) aNil)))))
    (sSeq (sSet [0] 1 (eCall F_l_text_of (aTv (eVar 5) aNil)))
    (sSeq (sIf (bNot (bTru (oTv (eCall F_l_same (aTv (eLst (osCons (oTv (eCall F_version_text (aTv (eVar 5) aNil))) (osCons (oTv (eCallK F_version_text 0 1 [0] osNil (osCons (oTv (eVar 5)) osNil))) (osCons (oTv (eCall F_read_version (aTv (eVar 1) aNil))) osNil)))) (aTv (eLst (osCons (oTv (eVar 1)) (osCons (oTv (eVar 1)) (osCons (oTv (eVar 5)) osNil)))) aNil))))))
    (sSeq (sRet (eC (.bool false)))
    sNil)
    sNil)
    (sSeq (sFor (iFn rng1 (osCons (oTv (eC (.int 12))) osNil)) (gN [0] 6) q_l_right_1)
    sNil)))))
def q_l_right_3 : SS :=
    (sSeq (sIf (bNot (bTru (oTv (eCall F_l_same (aTv (eCall F_l_asked (aTv (eVar 2) (aTv (eCall F_l_take (aSl 0 (aTv (eC (.int 2)) aNil))) aNil))) (aTv (eTup (osCons (oTv (eC (.str "text"))) (osCons (oTv (eC .none)) osNil))) aNil))))))
    (sSeq (sRet (eC (.bool false)))
    sNil)
    sNil)
    sNil)
def q_l_right_4 : SS :=
    (sSeq (sIf (bNot (bTru (oTv (eCall F_l_is_told (aSl 0 (aTv (eVar 1) aNil))))))
    (sSeq (sRet (eC (.bool false)))
    sNil)
    sNil)
    sNil)
def b_l_right : SS :=
    (sSeq (sFor (iSeq (eCall F_l_edges (aSl 0 aNil))) (gN [0] 1) q_l_right_4)
    (sSeq (sFor (iSeq (eTup (osCons (oTv (eC .none)) (osCons (oTv (eC (.int 7))) (osCons (oTv (eC (.bool true))) (osCons (oTv (eTup osNil)) (osCons (oTv (eLst osNil)) (osCons (oTv (eDic [])) (osCons (oTv (eTup (osCons (oTv (eC (.str "serial 1\n"))) osNil))) (osCons (oTv (eLst (osCons (oTv (eC (.str "serial 1\n"))) osNil))) osNil)))))))))) (gN [0] 2) q_l_right_3)
    (sSeq (sFor (iFn rng1 (osCons (oTv (eC (.int 4))) osNil)) (gN [0] 3) q_l_right_2)
    (sSeq (sRet (eC (.bool true)))
    sNil))))
def F_l_right : FnS := ⟨[true], runF 7 [true] b_l_right⟩
theorem c_l_right : cSs (cS ["well", "text", "odd", "turn", "names", "version", "each"] (co T49 ["well", "text", "odd", "turn", "names", "version", "each"] 16) [0] (defScope s_l_right) 5000000000000000000 16) (defBody s_l_right) = some b_l_right := by kernel_rfl
@[simp] theorem m_l_right : F_l_right.mask = [true] := rfl
theorem u_l_right : F_l_right.run = runF 7 [true] b_l_right := rfl
def T50 : Tab := T49.add "_law_right" F_l_right kw_l_right
theorem sc_law : FnScope ["script", "lap"] ["script"] (defScope s_law) := ⟨rfl, rfl, rfl, by decide +kernel, rfl, by decide +kernel, by decide +kernel⟩
def kw_law : Nat → List Str → Option (List Nat) := noKw
def q_law_1 : ME :=
    (eCall F_l_right (aOw (eCall F_l_well (aTv (eVar 0) (aTv (eVar 1) aNil))) aNil))
def b_law : SS :=
    (sSeq (sRet (eB allD (osCons (oTv (eLc [1] (iFn rng1 (osCons (oTv (eB maxD (osCons (oTv (eC (.int 2))) (osCons (oTv (eB minD (osCons (oTv (eB lenD (osCons (oSl 0) osNil))) (osCons (oTv (eC (.int 4))) osNil)))) osNil)))) osNil)) (gN [] 1) bYes q_law_1)) osNil)))
    sNil)
def F_law : FnS := ⟨[false], runF 2 [false] b_law⟩
theorem c_law : cSs (cS ["script", "lap"] (co T50 ["script", "lap"] 16) [] (defScope s_law) 5000000000000000000 16) (defBody s_law) = some b_law := by kernel_rfl
@[simp] theorem m_law : F_law.mask = [false] := rfl
theorem u_law : F_law.run = runF 2 [false] b_law := rfl
def T51 : Tab := T50.add "law" F_law kw_law
theorem facts {P : Program} {w : World} {K : PySem.W.Frag} {h : Heap} {mg : Str → Option Value} {f : Addr} (X : K.In h) (G : h.Ns mainGlobals mg) (hfa : mg ("law" : Str) = some (.ref f)) (c : He.SaysD fcs dl K) (cc : exC cst K = true) (ce : els.all (ClsD.ok K fileN) = true) (cw : els.map (iniW K) = els.map ClsD.val) (hP : (P.main.file : Str) = fileN) (hT : (P.main.scope.names.lookup ("super" : Str)).isSome = false) :
    ∃ fd : FuncData, (∀ (s : Shared) (v : Value), BindsTo s fd ⟨[v], []⟩ [("script", v)]) ∧ ∀ base : Heap, K.In base → base.Ns mainGlobals mg → FnOk P w K mg base CX0 64 f fd ["script"] (spF K F_law) := by
  have hb : ∀ x ∈ bltNames, mg x = none := by
    intro x hx
    simp only [bltNames, List.mem_cons, List.not_mem_nil, or_false] at hx
    rcases hx with rfl | rfl | rfl | rfl | rfl | rfl | rfl | rfl | rfl | rfl | rfl | rfl | rfl | rfl | rfl | rfl | rfl | rfl | rfl
    · exact He.free_ok X G (c.fact 51 (f := .free "len") rfl)
    · exact He.free_ok X G (c.fact 52 (f := .free "abs") rfl)
    · exact He.free_ok X G (c.fact 53 (f := .free "max") rfl)
    · exact He.free_ok X G (c.fact 54 (f := .free "min") rfl)
    · exact He.free_ok X G (c.fact 55 (f := .free "sum") rfl)
    · exact He.free_ok X G (c.fact 56 (f := .free "all") rfl)
    · exact He.free_ok X G (c.fact 57 (f := .free "any") rfl)
    · exact He.free_ok X G (c.fact 58 (f := .free "divmod") rfl)
    · exact He.free_ok X G (c.fact 59 (f := .free "int") rfl)
    · exact He.free_ok X G (c.fact 60 (f := .free "tuple") rfl)
    · exact He.free_ok X G (c.fact 61 (f := .free "list") rfl)
    · exact He.free_ok X G (c.fact 62 (f := .free "isinstance") rfl)
    · exact He.free_ok X G (c.fact 63 (f := .free "range") rfl)
    · exact He.free_ok X G (c.fact 64 (f := .free "enumerate") rfl)
    · exact He.free_ok X G (c.fact 65 (f := .free "zip") rfl)
    · exact He.free_ok X G (c.fact 66 (f := .free "bool") rfl)
    · exact He.free_ok X G (c.fact 67 (f := .free "str") rfl)
    · exact He.free_ok X G (c.fact 68 (f := .free "dict") rfl)
    · exact He.free_ok X G (c.fact 69 (f := .free "sorted") rfl)
  obtain ⟨fd0, D0⟩ := c.def_ 0 (d := d_l_well) rfl
  have E0 : Fun K "_law_well" "_law_well" s_l_well (He.fAd K ("_law_well", none)) fd0 := fun_of (kws := []) D0
  have m0 := He.glo_ok X G (c.fact 0 (f := .glo "_law_well") rfl)
  have B0 := D0.bindsN (ps := ["script", "lap"]) fun _ _ _ _ _ _ us hl => match us, hl with | [_, _], _ => rfl
  have w0 : ∀ n ks pm, kw_l_well n ks = some pm → KwOk K fd0 ["script", "lap"] ks n pm := by
    intro n ks pm hq
    cases hq
  obtain ⟨fd1, D1⟩ := c.def_ 1 (d := d_host_text) rfl
  have E1 : Fun K "host_text" "host_text" s_host_text (He.fAd K ("host_text", none)) fd1 := fun_of (kws := []) D1
  have m1 := He.glo_ok X G (c.fact 1 (f := .glo "host_text") rfl)
  have B1 := D1.bindsN (ps := ["host"]) fun _ _ _ _ _ _ us hl => match us, hl with | [_], _ => rfl
  have w1 : ∀ n ks pm, kw_host_text n ks = some pm → KwOk K fd1 ["host"] ks n pm := by
    intro n ks pm hq
    cases hq
  obtain ⟨fd2, D2⟩ := c.def_ 2 (d := d_row_text) rfl
  have E2 : Fun K "row_text" "row_text" s_row_text (He.fAd K ("row_text", none)) fd2 := fun_of (kws := []) D2
  have m2 := He.glo_ok X G (c.fact 2 (f := .glo "row_text") rfl)
  have B2 := D2.bindsN (ps := ["row"]) fun _ _ _ _ _ _ us hl => match us, hl with | [_], _ => rfl
  have w2 : ∀ n ks pm, kw_row_text n ks = some pm → KwOk K fd2 ["row"] ks n pm := by
    intro n ks pm hq
    cases hq
  obtain ⟨fd3, D3⟩ := c.def_ 3 (d := d_version_text_of) rfl
  have E3 : Fun K "version_text_of" "version_text_of" s_version_text_of (He.fAd K ("version_text_of", none)) fd3 := fun_of (kws := []) D3
  have m3 := He.glo_ok X G (c.fact 3 (f := .glo "version_text_of") rfl)
  have B3 := D3.bindsN (ps := ["version"]) fun _ _ _ _ _ _ us hl => match us, hl with | [_], _ => rfl
  have w3 : ∀ n ks pm, kw_version_text_of n ks = some pm → KwOk K fd3 ["version"] ks n pm := by
    intro n ks pm hq
    cases hq
  obtain ⟨fd4, D4⟩ := c.def_ 4 (d := d_is_number) rfl
  have E4 : Fun K "is_number" "is_number" s_is_number (He.fAd K ("is_number", none)) fd4 := fun_of (kws := []) D4
  have m4 := He.glo_ok X G (c.fact 4 (f := .glo "is_number") rfl)
  have B4 := D4.bindsN (ps := ["value"]) fun _ _ _ _ _ _ us hl => match us, hl with | [_], _ => rfl
  have w4 : ∀ n ks pm, kw_is_number n ks = some pm → KwOk K fd4 ["value"] ks n pm := by
    intro n ks pm hq
    cases hq
  obtain ⟨fd5, D5⟩ := c.def_ 5 (d := d_is_up_to) rfl
  have E5 : Fun K "is_up_to" "is_up_to" s_is_up_to (He.fAd K ("is_up_to", none)) fd5 := fun_of (kws := []) D5
  have m5 := He.glo_ok X G (c.fact 5 (f := .glo "is_up_to") rfl)
  have B5 := D5.bindsN (ps := ["value", "most"]) fun _ _ _ _ _ _ us hl => match us, hl with | [_, _], _ => rfl
  have w5 : ∀ n ks pm, kw_is_up_to n ks = some pm → KwOk K fd5 ["value", "most"] ks n pm := by
    intro n ks pm hq
    cases hq
  obtain ⟨fd6, D6⟩ := c.def_ 6 (d := d_is_tuple_up_to) rfl
  have E6 : Fun K "is_tuple_up_to" "is_tuple_up_to" s_is_tuple_up_to (He.fAd K ("is_tuple_up_to", none)) fd6 := fun_of (kws := []) D6
  have m6 := He.glo_ok X G (c.fact 6 (f := .glo "is_tuple_up_to") rfl)
  have B6 := D6.bindsN (ps := ["value", "low", "high"]) fun _ _ _ _ _ _ us hl => match us, hl with | [_, _, _], _ => rfl
  have w6 : ∀ n ks pm, kw_is_tuple_up_to n ks = some pm → KwOk K fd6 ["value", "low", "high"] ks n pm := by
    intro n ks pm hq
    cases hq
  obtain ⟨fd7, D7⟩ := c.def_ 7 (d := d_is_tuple_of) rfl
  have E7 : Fun K "is_tuple_of" "is_tuple_of" s_is_tuple_of (He.fAd K ("is_tuple_of", none)) fd7 := fun_of (kws := []) D7
  have m7 := He.glo_ok X G (c.fact 7 (f := .glo "is_tuple_of") rfl)
  have B7 := D7.bindsN (ps := ["value", "many"]) fun _ _ _ _ _ _ us hl => match us, hl with | [_, _], _ => rfl
  have w7 : ∀ n ks pm, kw_is_tuple_of n ks = some pm → KwOk K fd7 ["value", "many"] ks n pm := by
    intro n ks pm hq
    cases hq
  obtain ⟨fd8, D8⟩ := c.def_ 8 (d := d_is_pair) rfl
  have E8 : Fun K "is_pair" "is_pair" s_is_pair (He.fAd K ("is_pair", none)) fd8 := fun_of (kws := []) D8
  have m8 := He.glo_ok X G (c.fact 8 (f := .glo "is_pair") rfl)
  have B8 := D8.bindsN (ps := ["value"]) fun _ _ _ _ _ _ us hl => match us, hl with | [_], _ => rfl
  have w8 : ∀ n ks pm, kw_is_pair n ks = some pm → KwOk K fd8 ["value"] ks n pm := by
    intro n ks pm hq
    cases hq
  obtain ⟨fd9, D9⟩ := c.def_ 9 (d := d_are_rising) rfl
  have E9 : Fun K "are_rising" "are_rising" s_are_rising (He.fAd K ("are_rising", none)) fd9 := fun_of (kws := []) D9
  have m9 := He.glo_ok X G (c.fact 9 (f := .glo "are_rising") rfl)
  have B9 := D9.bindsN (ps := ["values"]) fun _ _ _ _ _ _ us hl => match us, hl with | [_], _ => rfl
  have w9 : ∀ n ks pm, kw_are_rising n ks = some pm → KwOk K fd9 ["values"] ks n pm := by
    intro n ks pm hq
    cases hq
  obtain ⟨fd10, D10⟩ := c.def_ 10 (d := d_is_name) rfl
  have E10 : Fun K "is_name" "is_name" s_is_name (He.fAd K ("is_name", none)) fd10 := fun_of (kws := []) D10
  have m10 := He.glo_ok X G (c.fact 10 (f := .glo "is_name") rfl)
  have B10 := D10.bindsN (ps := ["value"]) fun _ _ _ _ _ _ us hl => match us, hl with | [_], _ => rfl
  have w10 : ∀ n ks pm, kw_is_name n ks = some pm → KwOk K fd10 ["value"] ks n pm := by
    intro n ks pm hq
    cases hq
  obtain ⟨fd11, D11⟩ := c.def_ 11 (d := d_are_unlike) rfl
  have E11 : Fun K "are_unlike" "are_unlike" s_are_unlike (He.fAd K ("are_unlike", none)) fd11 := fun_of (kws := []) D11
  have m11 := He.glo_ok X G (c.fact 11 (f := .glo "are_unlike") rfl)
  have B11 := D11.bindsN (ps := ["values"]) fun _ _ _ _ _ _ us hl => match us, hl with | [_], _ => rfl
  have w11 : ∀ n ks pm, kw_are_unlike n ks = some pm → KwOk K fd11 ["values"] ks n pm := by
    intro n ks pm hq
    cases hq
  obtain ⟨fd12, D12⟩ := c.def_ 12 (d := d_is_text) rfl
  have E12 : Fun K "is_text" "is_text" s_is_text (He.fAd K ("is_text", none)) fd12 := fun_of (kws := []) D12
  have m12 := He.glo_ok X G (c.fact 12 (f := .glo "is_text") rfl)
  have B12 := D12.bindsN (ps := ["value"]) fun _ _ _ _ _ _ us hl => match us, hl with | [_], _ => rfl
  have w12 : ∀ n ks pm, kw_is_text n ks = some pm → KwOk K fd12 ["value"] ks n pm := by
    intro n ks pm hq
    cases hq
  obtain ⟨fd13, D13⟩ := c.def_ 13 (d := d_is_host) rfl
  have E13 : Fun K "is_host" "is_host" s_is_host (He.fAd K ("is_host", none)) fd13 := fun_of (kws := []) D13
  have m13 := He.glo_ok X G (c.fact 13 (f := .glo "is_host") rfl)
  have B13 := D13.bindsN (ps := ["value"]) fun _ _ _ _ _ _ us hl => match us, hl with | [_], _ => rfl
  have w13 : ∀ n ks pm, kw_is_host n ks = some pm → KwOk K fd13 ["value"] ks n pm := by
    intro n ks pm hq
    cases hq
  obtain ⟨fd14, D14⟩ := c.def_ 14 (d := d_are_hosts) rfl
  have E14 : Fun K "are_hosts" "are_hosts" s_are_hosts (He.fAd K ("are_hosts", none)) fd14 := fun_of (kws := []) D14
  have m14 := He.glo_ok X G (c.fact 14 (f := .glo "are_hosts") rfl)
  have B14 := D14.bindsN (ps := ["value", "most"]) fun _ _ _ _ _ _ us hl => match us, hl with | [_, _], _ => rfl
  have w14 : ∀ n ks pm, kw_are_hosts n ks = some pm → KwOk K fd14 ["value", "most"] ks n pm := by
    intro n ks pm hq
    cases hq
  obtain ⟨fd15, D15⟩ := c.def_ 15 (d := d_is_entry) rfl
  have E15 : Fun K "is_entry" "is_entry" s_is_entry (He.fAd K ("is_entry", none)) fd15 := fun_of (kws := []) D15
  have m15 := He.glo_ok X G (c.fact 15 (f := .glo "is_entry") rfl)
  have B15 := D15.bindsN (ps := ["value"]) fun _ _ _ _ _ _ us hl => match us, hl with | [_], _ => rfl
  have w15 : ∀ n ks pm, kw_is_entry n ks = some pm → KwOk K fd15 ["value"] ks n pm := by
    intro n ks pm hq
    cases hq
  obtain ⟨fd16, D16⟩ := c.def_ 16 (d := d_is_inner_host) rfl
  have E16 : Fun K "is_inner_host" "is_inner_host" s_is_inner_host (He.fAd K ("is_inner_host", none)) fd16 := fun_of (kws := []) D16
  have m16 := He.glo_ok X G (c.fact 16 (f := .glo "is_inner_host") rfl)
  have B16 := D16.bindsN (ps := ["value"]) fun _ _ _ _ _ _ us hl => match us, hl with | [_], _ => rfl
  have w16 : ∀ n ks pm, kw_is_inner_host n ks = some pm → KwOk K fd16 ["value"] ks n pm := by
    intro n ks pm hq
    cases hq
  obtain ⟨fd17, D17⟩ := c.def_ 17 (d := d_is_glue) rfl
  have E17 : Fun K "is_glue" "is_glue" s_is_glue (He.fAd K ("is_glue", none)) fd17 := fun_of (kws := []) D17
  have m17 := He.glo_ok X G (c.fact 17 (f := .glo "is_glue") rfl)
  have B17 := D17.bindsN (ps := ["value"]) fun _ _ _ _ _ _ us hl => match us, hl with | [_], _ => rfl
  have w17 : ∀ n ks pm, kw_is_glue n ks = some pm → KwOk K fd17 ["value"] ks n pm := by
    intro n ks pm hq
    cases hq
  obtain ⟨fd18, D18⟩ := c.def_ 18 (d := d_is_glue_row) rfl
  have E18 : Fun K "is_glue_row" "is_glue_row" s_is_glue_row (He.fAd K ("is_glue_row", none)) fd18 := fun_of (kws := []) D18
  have m18 := He.glo_ok X G (c.fact 18 (f := .glo "is_glue_row") rfl)
  have B18 := D18.bindsN (ps := ["value"]) fun _ _ _ _ _ _ us hl => match us, hl with | [_], _ => rfl
  have w18 : ∀ n ks pm, kw_is_glue_row n ks = some pm → KwOk K fd18 ["value"] ks n pm := by
    intro n ks pm hq
    cases hq
  obtain ⟨fd19, D19⟩ := c.def_ 19 (d := d_are_rows) rfl
  have E19 : Fun K "are_rows" "are_rows" s_are_rows (He.fAd K ("are_rows", none)) fd19 := fun_of (kws := []) D19
  have m19 := He.glo_ok X G (c.fact 19 (f := .glo "are_rows") rfl)
  have B19 := D19.bindsN (ps := ["value"]) fun _ _ _ _ _ _ us hl => match us, hl with | [_], _ => rfl
  have w19 : ∀ n ks pm, kw_are_rows n ks = some pm → KwOk K fd19 ["value"] ks n pm := by
    intro n ks pm hq
    cases hq
  obtain ⟨fd20, D20⟩ := c.def_ 20 (d := d_is_version_of) rfl
  have E20 : Fun K "is_version_of" "is_version_of" s_is_version_of (He.fAd K ("is_version_of", none)) fd20 := fun_of (kws := []) D20
  have m20 := He.glo_ok X G (c.fact 20 (f := .glo "is_version_of") rfl)
  have B20 := D20.bindsN (ps := ["value"]) fun _ _ _ _ _ _ us hl => match us, hl with | [_], _ => rfl
  have w20 : ∀ n ks pm, kw_is_version_of n ks = some pm → KwOk K fd20 ["value"] ks n pm := by
    intro n ks pm hq
    cases hq
  obtain ⟨fd21, D21⟩ := c.def_ 21 (d := d_check_version) rfl
  have E21 : Fun K "check_version" "check_version" s_check_version (He.fAd K ("check_version", none)) fd21 := fun_of (kws := []) D21
  have m21 := He.glo_ok X G (c.fact 21 (f := .glo "check_version") rfl)
  have B21 := D21.bindsN (ps := ["version"]) fun _ _ _ _ _ _ us hl => match us, hl with | [_], _ => rfl
  have w21 : ∀ n ks pm, kw_check_version n ks = some pm → KwOk K fd21 ["version"] ks n pm := by
    intro n ks pm hq
    cases hq
  obtain ⟨fd22, D22⟩ := c.def_ 22 (d := d_version_text) rfl
  have E22 : Fun K "version_text" "version_text" s_version_text (He.fAd K ("version_text", none)) fd22 := fun_of (kws := []) D22
  have m22 := He.glo_ok X G (c.fact 22 (f := .glo "version_text") rfl)
  have B22 := D22.bindsN (ps := ["version"]) fun _ _ _ _ _ _ us hl => match us, hl with | [_], _ => rfl
  have w22 : ∀ n ks pm, kw_version_text n ks = some pm → KwOk K fd22 ["version"] ks n pm := by
    intro n ks pm hq
    unfold kw_version_text at hq
    split at hq
    · rename_i hc
      obtain ⟨rfl, rfl⟩ := hc
      cases hq
      exact KwOk.of E22 fun _ _ _ _ _ _ us ws xs h1 h2 h3 => match us, ws, h1, h2, h3 with | [], [_], _, _, h3 => by cases h3; rfl
    · cases hq
  obtain ⟨fd23, D23⟩ := c.def_ 23 (d := d_number_in) rfl
  have E23 : Fun K "number_in" "number_in" s_number_in (He.fAd K ("number_in", none)) fd23 := fun_of (kws := []) D23
  have m23 := He.glo_ok X G (c.fact 23 (f := .glo "number_in") rfl)
  have B23 := D23.bindsN (ps := ["text"]) fun _ _ _ _ _ _ us hl => match us, hl with | [_], _ => rfl
  have w23 : ∀ n ks pm, kw_number_in n ks = some pm → KwOk K fd23 ["text"] ks n pm := by
    intro n ks pm hq
    cases hq
  obtain ⟨fd24, D24⟩ := c.def_ 24 (d := d_serial_in) rfl
  have E24 : Fun K "serial_in" "serial_in" s_serial_in (He.fAd K ("serial_in", none)) fd24 := fun_of (kws := []) D24
  have m24 := He.glo_ok X G (c.fact 24 (f := .glo "serial_in") rfl)
  have B24 := D24.bindsN (ps := ["line"]) fun _ _ _ _ _ _ us hl => match us, hl with | [_], _ => rfl
  have w24 : ∀ n ks pm, kw_serial_in n ks = some pm → KwOk K fd24 ["line"] ks n pm := by
    intro n ks pm hq
    cases hq
  obtain ⟨fd25, D25⟩ := c.def_ 25 (d := d_host_in) rfl
  have E25 : Fun K "host_in" "host_in" s_host_in (He.fAd K ("host_in", none)) fd25 := fun_of (kws := []) D25
  have m25 := He.glo_ok X G (c.fact 25 (f := .glo "host_in") rfl)
  have B25 := D25.bindsN (ps := ["text"]) fun _ _ _ _ _ _ us hl => match us, hl with | [_], _ => rfl
  have w25 : ∀ n ks pm, kw_host_in n ks = some pm → KwOk K fd25 ["text"] ks n pm := by
    intro n ks pm hq
    cases hq
  obtain ⟨fd26, D26⟩ := c.def_ 26 (d := d_row_in) rfl
  have E26 : Fun K "row_in" "row_in" s_row_in (He.fAd K ("row_in", none)) fd26 := fun_of (kws := []) D26
  have m26 := He.glo_ok X G (c.fact 26 (f := .glo "row_in") rfl)
  have B26 := D26.bindsN (ps := ["line"]) fun _ _ _ _ _ _ us hl => match us, hl with | [_], _ => rfl
  have w26 : ∀ n ks pm, kw_row_in n ks = some pm → KwOk K fd26 ["line"] ks n pm := by
    intro n ks pm hq
    cases hq
  obtain ⟨fd27, D27⟩ := c.def_ 27 (d := d_rows_and) rfl
  have E27 : Fun K "rows_and" "rows_and" s_rows_and (He.fAd K ("rows_and", none)) fd27 := fun_of (kws := []) D27
  have m27 := He.glo_ok X G (c.fact 27 (f := .glo "rows_and") rfl)
  have B27 := D27.bindsN (ps := ["rows", "line"]) fun _ _ _ _ _ _ us hl => match us, hl with | [_, _], _ => rfl
  have w27 : ∀ n ks pm, kw_rows_and n ks = some pm → KwOk K fd27 ["rows", "line"] ks n pm := by
    intro n ks pm hq
    cases hq
  obtain ⟨fd28, D28⟩ := c.def_ 28 (d := d_read_lines) rfl
  have E28 : Fun K "read_lines" "read_lines" s_read_lines (He.fAd K ("read_lines", none)) fd28 := fun_of (kws := []) D28
  have m28 := He.glo_ok X G (c.fact 28 (f := .glo "read_lines") rfl)
  have B28 := D28.bindsN (ps := ["lines"]) fun _ _ _ _ _ _ us hl => match us, hl with | [_], _ => rfl
  have w28 : ∀ n ks pm, kw_read_lines n ks = some pm → KwOk K fd28 ["lines"] ks n pm := by
    intro n ks pm hq
    cases hq
  obtain ⟨fd29, D29⟩ := c.def_ 29 (d := d_read_version) rfl
  have E29 : Fun K "read_version" "read_version" s_read_version (He.fAd K ("read_version", none)) fd29 := fun_of (kws := []) D29
  have m29 := He.glo_ok X G (c.fact 29 (f := .glo "read_version") rfl)
  have B29 := D29.bindsN (ps := ["text"]) fun _ _ _ _ _ _ us hl => match us, hl with | [_], _ => rfl
  have w29 : ∀ n ks pm, kw_read_version n ks = some pm → KwOk K fd29 ["text"] ks n pm := by
    intro n ks pm hq
    unfold kw_read_version at hq
    split at hq
    · rename_i hc
      obtain ⟨rfl, rfl⟩ := hc
      cases hq
      exact KwOk.of E29 fun _ _ _ _ _ _ us ws xs h1 h2 h3 => match us, ws, h1, h2, h3 with | [], [_], _, _, h3 => by cases h3; rfl
    · cases hq
  obtain ⟨fd30, D30⟩ := c.def_ 30 (d := d_l_take) rfl
  have E30 : Fun K "_law_take" "_law_take" s_l_take (He.fAd K ("_law_take", none)) fd30 := fun_of (kws := []) D30
  have m30 := He.glo_ok X G (c.fact 30 (f := .glo "_law_take") rfl)
  have B30 := D30.bindsN (ps := ["well", "many"]) fun _ _ _ _ _ _ us hl => match us, hl with | [_, _], _ => rfl
  have w30 : ∀ n ks pm, kw_l_take n ks = some pm → KwOk K fd30 ["well", "many"] ks n pm := by
    intro n ks pm hq
    cases hq
  obtain ⟨fd31, D31⟩ := c.def_ 31 (d := d_l_same) rfl
  have E31 : Fun K "_law_same" "_law_same" s_l_same (He.fAd K ("_law_same", none)) fd31 := fun_of (kws := []) D31
  have m31 := He.glo_ok X G (c.fact 31 (f := .glo "_law_same") rfl)
  have B31 := D31.bindsN (ps := ["told", "due"]) fun _ _ _ _ _ _ us hl => match us, hl with | [_, _], _ => rfl
  have w31 : ∀ n ks pm, kw_l_same n ks = some pm → KwOk K fd31 ["told", "due"] ks n pm := by
    intro n ks pm hq
    cases hq
  obtain ⟨fd32, D32⟩ := c.def_ 32 (d := d_l_of) rfl
  have E32 : Fun K "_law_of" "_law_of" s_l_of (He.fAd K ("_law_of", none)) fd32 := fun_of (kws := []) D32
  have m32 := He.glo_ok X G (c.fact 32 (f := .glo "_law_of") rfl)
  have B32 := D32.bindsN (ps := ["well", "things"]) fun _ _ _ _ _ _ us hl => match us, hl with | [_, _], _ => rfl
  have w32 : ∀ n ks pm, kw_l_of n ks = some pm → KwOk K fd32 ["well", "things"] ks n pm := by
    intro n ks pm hq
    cases hq
  obtain ⟨fd33, D33⟩ := c.def_ 33 (d := d_l_rising) rfl
  have E33 : Fun K "_law_rising" "_law_rising" s_l_rising (He.fAd K ("_law_rising", none)) fd33 := fun_of (kws := []) D33
  have m33 := He.glo_ok X G (c.fact 33 (f := .glo "_law_rising") rfl)
  have B33 := D33.bindsN (ps := ["things"]) fun _ _ _ _ _ _ us hl => match us, hl with | [_], _ => rfl
  have w33 : ∀ n ks pm, kw_l_rising n ks = some pm → KwOk K fd33 ["things"] ks n pm := by
    intro n ks pm hq
    cases hq
  obtain ⟨fd34, D34⟩ := c.def_ 34 (d := d_l_names) rfl
  have E34 : Fun K "_law_names" "_law_names" s_l_names (He.fAd K ("_law_names", none)) fd34 := fun_of (kws := []) D34
  have m34 := He.glo_ok X G (c.fact 34 (f := .glo "_law_names") rfl)
  have B34 := D34.bindsN (ps := ["well", "many"]) fun _ _ _ _ _ _ us hl => match us, hl with | [_, _], _ => rfl
  have w34 : ∀ n ks pm, kw_l_names n ks = some pm → KwOk K fd34 ["well", "many"] ks n pm := by
    intro n ks pm hq
    cases hq
  obtain ⟨fd35, D35⟩ := c.def_ 35 (d := d_l_hosts) rfl
  have E35 : Fun K "_law_hosts" "_law_hosts" s_l_hosts (He.fAd K ("_law_hosts", none)) fd35 := fun_of (kws := []) D35
  have m35 := He.glo_ok X G (c.fact 35 (f := .glo "_law_hosts") rfl)
  have B35 := D35.bindsN (ps := ["well", "names", "most", "outside"]) fun _ _ _ _ _ _ us hl => match us, hl with | [_, _, _, _], _ => rfl
  have w35 : ∀ n ks pm, kw_l_hosts n ks = some pm → KwOk K fd35 ["well", "names", "most", "outside"] ks n pm := by
    intro n ks pm hq
    cases hq
  obtain ⟨fd36, D36⟩ := c.def_ 36 (d := d_l_version) rfl
  have E36 : Fun K "_law_version" "_law_version" s_l_version (He.fAd K ("_law_version", none)) fd36 := fun_of (kws := []) D36
  have m36 := He.glo_ok X G (c.fact 36 (f := .glo "_law_version") rfl)
  have B36 := D36.bindsN (ps := ["well", "names", "most"]) fun _ _ _ _ _ _ us hl => match us, hl with | [_, _, _], _ => rfl
  have w36 : ∀ n ks pm, kw_l_version n ks = some pm → KwOk K fd36 ["well", "names", "most"] ks n pm := by
    intro n ks pm hq
    cases hq
  obtain ⟨fd37, D37⟩ := c.def_ 37 (d := d_l_text_of) rfl
  have E37 : Fun K "_law_text_of" "_law_text_of" s_l_text_of (He.fAd K ("_law_text_of", none)) fd37 := fun_of (kws := []) D37
  have m37 := He.glo_ok X G (c.fact 37 (f := .glo "_law_text_of") rfl)
  have B37 := D37.bindsN (ps := ["version"]) fun _ _ _ _ _ _ us hl => match us, hl with | [_], _ => rfl
  have w37 : ∀ n ks pm, kw_l_text_of n ks = some pm → KwOk K fd37 ["version"] ks n pm := by
    intro n ks pm hq
    cases hq
  obtain ⟨fd38, D38⟩ := c.def_ 38 (d := d_l_asked) rfl
  have E38 : Fun K "_law_asked" "_law_asked" s_l_asked (He.fAd K ("_law_asked", none)) fd38 := fun_of (kws := []) D38
  have m38 := He.glo_ok X G (c.fact 38 (f := .glo "_law_asked") rfl)
  have B38 := D38.bindsN (ps := ["text", "way"]) fun _ _ _ _ _ _ us hl => match us, hl with | [_, _], _ => rfl
  have w38 : ∀ n ks pm, kw_l_asked n ks = some pm → KwOk K fd38 ["text", "way"] ks n pm := by
    intro n ks pm hq
    cases hq
  obtain ⟨fd39, D39⟩ := c.def_ 39 (d := d_l_is_name) rfl
  have E39 : Fun K "_law_is_name" "_law_is_name" s_l_is_name (He.fAd K ("_law_is_name", none)) fd39 := fun_of (kws := []) D39
  have m39 := He.glo_ok X G (c.fact 39 (f := .glo "_law_is_name") rfl)
  have B39 := D39.bindsN (ps := ["value"]) fun _ _ _ _ _ _ us hl => match us, hl with | [_], _ => rfl
  have w39 : ∀ n ks pm, kw_l_is_name n ks = some pm → KwOk K fd39 ["value"] ks n pm := by
    intro n ks pm hq
    cases hq
  obtain ⟨fd40, D40⟩ := c.def_ 40 (d := d_l_are_hosts) rfl
  have E40 : Fun K "_law_are_hosts" "_law_are_hosts" s_l_are_hosts (He.fAd K ("_law_are_hosts", none)) fd40 := fun_of (kws := []) D40
  have m40 := He.glo_ok X G (c.fact 40 (f := .glo "_law_are_hosts") rfl)
  have B40 := D40.bindsN (ps := ["value", "outside", "most"]) fun _ _ _ _ _ _ us hl => match us, hl with | [_, _, _], _ => rfl
  have w40 : ∀ n ks pm, kw_l_are_hosts n ks = some pm → KwOk K fd40 ["value", "outside", "most"] ks n pm := by
    intro n ks pm hq
    cases hq
  obtain ⟨fd41, D41⟩ := c.def_ 41 (d := d_l_are_rows) rfl
  have E41 : Fun K "_law_are_rows" "_law_are_rows" s_l_are_rows (He.fAd K ("_law_are_rows", none)) fd41 := fun_of (kws := []) D41
  have m41 := He.glo_ok X G (c.fact 41 (f := .glo "_law_are_rows") rfl)
  have B41 := D41.bindsN (ps := ["value"]) fun _ _ _ _ _ _ us hl => match us, hl with | [_], _ => rfl
  have w41 : ∀ n ks pm, kw_l_are_rows n ks = some pm → KwOk K fd41 ["value"] ks n pm := by
    intro n ks pm hq
    cases hq
  obtain ⟨fd42, D42⟩ := c.def_ 42 (d := d_l_host_of) rfl
  have E42 : Fun K "_law_host_of" "_law_host_of" s_l_host_of (He.fAd K ("_law_host_of", none)) fd42 := fun_of (kws := []) D42
  have m42 := He.glo_ok X G (c.fact 42 (f := .glo "_law_host_of") rfl)
  have B42 := D42.bindsN (ps := ["word"]) fun _ _ _ _ _ _ us hl => match us, hl with | [_], _ => rfl
  have w42 : ∀ n ks pm, kw_l_host_of n ks = some pm → KwOk K fd42 ["word"] ks n pm := by
    intro n ks pm hq
    cases hq
  obtain ⟨fd43, D43⟩ := c.def_ 43 (d := d_l_row_of) rfl
  have E43 : Fun K "_law_row_of" "_law_row_of" s_l_row_of (He.fAd K ("_law_row_of", none)) fd43 := fun_of (kws := []) D43
  have m43 := He.glo_ok X G (c.fact 43 (f := .glo "_law_row_of") rfl)
  have B43 := D43.bindsN (ps := ["row"]) fun _ _ _ _ _ _ us hl => match us, hl with | [_], _ => rfl
  have w43 : ∀ n ks pm, kw_l_row_of n ks = some pm → KwOk K fd43 ["row"] ks n pm := by
    intro n ks pm hq
    cases hq
  obtain ⟨fd44, D44⟩ := c.def_ 44 (d := d_l_serial_of) rfl
  have E44 : Fun K "_law_serial_of" "_law_serial_of" s_l_serial_of (He.fAd K ("_law_serial_of", none)) fd44 := fun_of (kws := []) D44
  have m44 := He.glo_ok X G (c.fact 44 (f := .glo "_law_serial_of") rfl)
  have B44 := D44.bindsN (ps := ["row"]) fun _ _ _ _ _ _ us hl => match us, hl with | [_], _ => rfl
  have w44 : ∀ n ks pm, kw_l_serial_of n ks = some pm → KwOk K fd44 ["row"] ks n pm := by
    intro n ks pm hq
    cases hq
  obtain ⟨fd45, D45⟩ := c.def_ 45 (d := d_l_read) rfl
  have E45 : Fun K "_law_read" "_law_read" s_l_read (He.fAd K ("_law_read", none)) fd45 := fun_of (kws := []) D45
  have m45 := He.glo_ok X G (c.fact 45 (f := .glo "_law_read") rfl)
  have B45 := D45.bindsN (ps := ["text"]) fun _ _ _ _ _ _ us hl => match us, hl with | [_], _ => rfl
  have w45 : ∀ n ks pm, kw_l_read n ks = some pm → KwOk K fd45 ["text"] ks n pm := by
    intro n ks pm hq
    cases hq
  obtain ⟨fd46, D46⟩ := c.def_ 46 (d := d_l_is_told) rfl
  have E46 : Fun K "_law_is_told" "_law_is_told" s_l_is_told (He.fAd K ("_law_is_told", none)) fd46 := fun_of (kws := []) D46
  have m46 := He.glo_ok X G (c.fact 46 (f := .glo "_law_is_told") rfl)
  have B46 := D46.bindsN (ps := ["well", "text"]) fun _ _ _ _ _ _ us hl => match us, hl with | [_, _], _ => rfl
  have w46 : ∀ n ks pm, kw_l_is_told n ks = some pm → KwOk K fd46 ["well", "text"] ks n pm := by
    intro n ks pm hq
    cases hq
  obtain ⟨fd47, D47⟩ := c.def_ 47 (d := d_l_bent) rfl
  have E47 : Fun K "_law_bent" "_law_bent" s_l_bent (He.fAd K ("_law_bent", none)) fd47 := fun_of (kws := []) D47
  have m47 := He.glo_ok X G (c.fact 47 (f := .glo "_law_bent") rfl)
  have B47 := D47.bindsN (ps := ["well", "text"]) fun _ _ _ _ _ _ us hl => match us, hl with | [_, _], _ => rfl
  have w47 : ∀ n ks pm, kw_l_bent n ks = some pm → KwOk K fd47 ["well", "text"] ks n pm := by
    intro n ks pm hq
    cases hq
  obtain ⟨fd48, D48⟩ := c.def_ 48 (d := d_l_edges) rfl
  have E48 : Fun K "_law_edges" "_law_edges" s_l_edges (He.fAd K ("_law_edges", none)) fd48 := fun_of (kws := []) D48
  have m48 := He.glo_ok X G (c.fact 48 (f := .glo "_law_edges") rfl)
  have B48 := D48.bindsN (ps := ["well"]) fun _ _ _ _ _ _ us hl => match us, hl with | [_], _ => rfl
  have w48 : ∀ n ks pm, kw_l_edges n ks = some pm → KwOk K fd48 ["well"] ks n pm := by
    intro n ks pm hq
    cases hq
  obtain ⟨fd49, D49⟩ := c.def_ 49 (d := d_l_right) rfl
  have E49 : Fun K "_law_right" "_law_right" s_l_right (He.fAd K ("_law_right", none)) fd49 := fun_of (kws := []) D49
  have m49 := He.glo_ok X G (c.fact 49 (f := .glo "_law_right") rfl)
  have B49 := D49.bindsN (ps := ["well"]) fun _ _ _ _ _ _ us hl => match us, hl with | [_], _ => rfl
  have w49 : ∀ n ks pm, kw_l_right n ks = some pm → KwOk K fd49 ["well"] ks n pm := by
    intro n ks pm hq
    cases hq
  obtain ⟨fd50, D50⟩ := c.def_ 50 (d := d_law) rfl
  have E50 : Fun K "law" "law" s_law (He.fAd K ("law", none)) fd50 := fun_of (kws := []) D50
  have m50 := He.glo_ok X G (c.fact 50 (f := .glo "law") rfl)
  have B50 := D50.bindsN (ps := ["script"]) fun _ _ _ _ _ _ us hl => match us, hl with | [_], _ => rfl
  have w50 : ∀ n ks pm, kw_law n ks = some pm → KwOk K fd50 ["script"] ks n pm := by
    intro n ks pm hq
    cases hq
  have e := hfa.symm.trans m50
  cases e
  refine ⟨fd50, fun s v => D50.bindsA (ps := ["script"]) (fun _ _ _ _ _ _ us hl => match us, hl with | [_], _ => rfl) s [v] rfl, fun base _ _ => ?_⟩
  have t0 : TabOk 0 T0 P w K mg base := by
    exact (((((((((((TabOk.nil hb).putC X G (exC_at cc 0 (q := ("NO_NAME", (.str ""))))).putC X G (exC_at cc 1 (q := ("STAR", (.str "*"))))).putC X G (exC_at cc 2 (q := ("SERIAL", (.str "serial"))))).putC X G (exC_at cc 3 (q := ("LETTERS", (.str "abcdefghijklmnopqrstuvwxyz"))))).putC X G (exC_at cc 4 (q := ("MOST_LETTERS", (.int 8))))).putC X G (exC_at cc 5 (q := ("OUTSIDE", (.str ""))))).putC X G (exC_at cc 6 (q := ("MOST_HOSTS", (.int 4))))).putC X G (exC_at cc 7 (q := ("MOST_GLUE", (.int 12))))).putC X G (exC_at cc 8 (q := ("MOST_ROWS", (.int 9))))).putC X G (exC_at cc 9 (q := ("MOST_SERIAL", (.int 999))))).putC X G (exC_at cc 10 (q := ("FIGURES", (.str "0123456789"))))
  have ie0 : InitT k_InvalidVersion.st k_InvalidVersion.fld k_InvalidVersion.gv := ⟨⟨_, _, _, _, _, _, _, _, _, rfl, by decide⟩, rfl, rfl, rfl, by decide +kernel, by decide +kernel, by decide +kernel, by decide +kernel, by decide +kernel, by decide +kernel, ⟨_, rfl, rfl⟩, by decide, by decide, by decide⟩
  obtain ⟨fe0, ke0⟩ := cls_of (P := P) (w := w) (base := base) X G ie0 (all_at ce 0 (q := k_InvalidVersion)) (map_at cw 0 (q := k_InvalidVersion)) hP hT (fun _ _ _ _ _ _ _ us hl => match us, hl with | [_, _], _ => rfl)
  have ie1 : InitT k_InvalidText.st k_InvalidText.fld k_InvalidText.gv := ⟨⟨_, _, _, _, _, _, _, _, _, rfl, by decide⟩, rfl, rfl, rfl, by decide +kernel, by decide +kernel, by decide +kernel, by decide +kernel, by decide +kernel, by decide +kernel, ⟨_, rfl, rfl⟩, by decide, by decide, by decide⟩
  obtain ⟨fe1, ke1⟩ := cls_of (P := P) (w := w) (base := base) X G ie1 (all_at ce 1 (q := k_InvalidText)) (map_at cw 1 (q := k_InvalidText)) hP hT (fun _ _ _ _ _ _ _ us hl => match us, hl with | [_, _], _ => rfl)
  have o0 : FnOk P w K mg base CX0 1 _ fd0 ["script", "lap"] (spF K F_l_well) := def_ok t0 E0 sc_l_well rfl (by decide) c_l_well
  have t1 : TabOk 1 T1 P w K mg base := (t0.mono (by decide)).add m0 E0.kp B0 o0 w0
  have o1 : FnOk P w K mg base CX0 2 _ fd1 ["host"] (spF K F_host_text) := def_ok t1 E1 sc_host_text rfl (by decide) c_host_text
  have t2 : TabOk 2 T2 P w K mg base := (t1.mono (by decide)).add m1 E1.kp B1 o1 w1
  have o2 : FnOk P w K mg base CX0 3 _ fd2 ["row"] (spF K F_row_text) := def_ok t2 E2 sc_row_text rfl (by decide) c_row_text
  have t3 : TabOk 3 T3 P w K mg base := (t2.mono (by decide)).add m2 E2.kp B2 o2 w2
  have o3 : FnOk P w K mg base CX0 4 _ fd3 ["version"] (spF K F_version_text_of) := def_ok t3 E3 sc_version_text_of rfl (by decide) c_version_text_of
  have t4 : TabOk 4 T4 P w K mg base := (t3.mono (by decide)).add m3 E3.kp B3 o3 w3
  have o4 : FnOk P w K mg base CX0 5 _ fd4 ["value"] (spF K F_is_number) := def_ok t4 E4 sc_is_number rfl (by decide) c_is_number
  have t5 : TabOk 5 T5 P w K mg base := (t4.mono (by decide)).add m4 E4.kp B4 o4 w4
  have o5 : FnOk P w K mg base CX0 6 _ fd5 ["value", "most"] (spF K F_is_up_to) := def_ok t5 E5 sc_is_up_to rfl (by decide) c_is_up_to
  have t6 : TabOk 6 T6 P w K mg base := (t5.mono (by decide)).add m5 E5.kp B5 o5 w5
  have o6 : FnOk P w K mg base CX0 7 _ fd6 ["value", "low", "high"] (spF K F_is_tuple_up_to) := def_ok t6 E6 sc_is_tuple_up_to rfl (by decide) c_is_tuple_up_to
  have t7 : TabOk 7 T7 P w K mg base := (t6.mono (by decide)).add m6 E6.kp B6 o6 w6
  have o7 : FnOk P w K mg base CX0 8 _ fd7 ["value", "many"] (spF K F_is_tuple_of) := def_ok t7 E7 sc_is_tuple_of rfl (by decide) c_is_tuple_of
  have t8 : TabOk 8 T8 P w K mg base := (t7.mono (by decide)).add m7 E7.kp B7 o7 w7
  have o8 : FnOk P w K mg base CX0 9 _ fd8 ["value"] (spF K F_is_pair) := def_ok t8 E8 sc_is_pair rfl (by decide) c_is_pair
  have t9 : TabOk 9 T9 P w K mg base := (t8.mono (by decide)).add m8 E8.kp B8 o8 w8
  have o9 : FnOk P w K mg base CX0 10 _ fd9 ["values"] (spF K F_are_rising) := def_ok t9 E9 sc_are_rising rfl (by decide) c_are_rising
  have t10 : TabOk 10 T10 P w K mg base := (t9.mono (by decide)).add m9 E9.kp B9 o9 w9
  have o10 : FnOk P w K mg base CX0 11 _ fd10 ["value"] (spF K F_is_name) := def_ok t10 E10 sc_is_name rfl (by decide) c_is_name
  have t11 : TabOk 11 T11 P w K mg base := (t10.mono (by decide)).add m10 E10.kp B10 o10 w10
  have o11 : FnOk P w K mg base CX0 12 _ fd11 ["values"] (spF K F_are_unlike) := def_ok t11 E11 sc_are_unlike rfl (by decide) c_are_unlike
  have t12 : TabOk 12 T12 P w K mg base := (t11.mono (by decide)).add m11 E11.kp B11 o11 w11
  have o12 : FnOk P w K mg base CX0 13 _ fd12 ["value"] (spF K F_is_text) := def_ok t12 E12 sc_is_text rfl (by decide) c_is_text
  have t13 : TabOk 13 T13 P w K mg base := (t12.mono (by decide)).add m12 E12.kp B12 o12 w12
  have o13 : FnOk P w K mg base CX0 14 _ fd13 ["value"] (spF K F_is_host) := def_ok t13 E13 sc_is_host rfl (by decide) c_is_host
  have t14 : TabOk 14 T14 P w K mg base := (t13.mono (by decide)).add m13 E13.kp B13 o13 w13
  have o14 : FnOk P w K mg base CX0 15 _ fd14 ["value", "most"] (spF K F_are_hosts) := def_ok t14 E14 sc_are_hosts rfl (by decide) c_are_hosts
  have t15 : TabOk 15 T15 P w K mg base := (t14.mono (by decide)).add m14 E14.kp B14 o14 w14
  have o15 : FnOk P w K mg base CX0 16 _ fd15 ["value"] (spF K F_is_entry) := def_ok t15 E15 sc_is_entry rfl (by decide) c_is_entry
  have t16 : TabOk 16 T16 P w K mg base := (t15.mono (by decide)).add m15 E15.kp B15 o15 w15
  have o16 : FnOk P w K mg base CX0 17 _ fd16 ["value"] (spF K F_is_inner_host) := def_ok t16 E16 sc_is_inner_host rfl (by decide) c_is_inner_host
  have t17 : TabOk 17 T17 P w K mg base := (t16.mono (by decide)).add m16 E16.kp B16 o16 w16
  have o17 : FnOk P w K mg base CX0 18 _ fd17 ["value"] (spF K F_is_glue) := def_ok t17 E17 sc_is_glue rfl (by decide) c_is_glue
  have t18 : TabOk 18 T18 P w K mg base := (t17.mono (by decide)).add m17 E17.kp B17 o17 w17
  have o18 : FnOk P w K mg base CX0 19 _ fd18 ["value"] (spF K F_is_glue_row) := def_ok t18 E18 sc_is_glue_row rfl (by decide) c_is_glue_row
  have t19 : TabOk 19 T19 P w K mg base := (t18.mono (by decide)).add m18 E18.kp B18 o18 w18
  have o19 : FnOk P w K mg base CX0 20 _ fd19 ["value"] (spF K F_are_rows) := def_ok t19 E19 sc_are_rows rfl (by decide) c_are_rows
  have t20 : TabOk 20 T20 P w K mg base := (t19.mono (by decide)).add m19 E19.kp B19 o19 w19
  have o20 : FnOk P w K mg base CX0 21 _ fd20 ["value"] (spF K F_is_version_of) := def_ok t20 E20 sc_is_version_of rfl (by decide) c_is_version_of
  have t21 : TabOk 21 T21 P w K mg base := (t20.mono (by decide)).add m20 E20.kp B20 o20 w20
  have o21 : FnOk P w K mg base CX0 22 _ fd21 ["version"] (spF K F_check_version) := def_ok t21 E21 sc_check_version rfl (by decide) c_check_version
  have t22 : TabOk 22 T22 P w K mg base := (t21.mono (by decide)).add m21 E21.kp B21 o21 w21
  have o22 : FnOk P w K mg base CX0 23 _ fd22 ["version"] (spF K F_version_text) := def_ok t22 E22 sc_version_text rfl (by decide) c_version_text
  have t23 : TabOk 23 T23 P w K mg base := (t22.mono (by decide)).add m22 E22.kp B22 o22 w22
  have o23 : FnOk P w K mg base CX0 24 _ fd23 ["text"] (spF K F_number_in) := def_ok t23 E23 sc_number_in rfl (by decide) c_number_in
  have t24 : TabOk 24 T24 P w K mg base := (t23.mono (by decide)).add m23 E23.kp B23 o23 w23
  have o24 : FnOk P w K mg base CX0 25 _ fd24 ["line"] (spF K F_serial_in) := def_ok t24 E24 sc_serial_in rfl (by decide) c_serial_in
  have t25 : TabOk 25 T25 P w K mg base := (t24.mono (by decide)).add m24 E24.kp B24 o24 w24
  have o25 : FnOk P w K mg base CX0 26 _ fd25 ["text"] (spF K F_host_in) := def_ok t25 E25 sc_host_in rfl (by decide) c_host_in
  have t26 : TabOk 26 T26 P w K mg base := (t25.mono (by decide)).add m25 E25.kp B25 o25 w25
  have o26 : FnOk P w K mg base CX0 27 _ fd26 ["line"] (spF K F_row_in) := def_ok t26 E26 sc_row_in rfl (by decide) c_row_in
  have t27 : TabOk 27 T27 P w K mg base := (t26.mono (by decide)).add m26 E26.kp B26 o26 w26
  have o27 : FnOk P w K mg base CX0 28 _ fd27 ["rows", "line"] (spF K F_rows_and) := def_ok t27 E27 sc_rows_and rfl (by decide) c_rows_and
  have t28 : TabOk 28 T28 P w K mg base := (t27.mono (by decide)).add m27 E27.kp B27 o27 w27
  have o28 : FnOk P w K mg base CX0 29 _ fd28 ["lines"] (spF K F_read_lines) := def_ok t28 E28 sc_read_lines rfl (by decide) c_read_lines
  have t29 : TabOk 29 T29 P w K mg base := (t28.mono (by decide)).add m28 E28.kp B28 o28 w28
  have o29 : FnOk P w K mg base CX0 30 _ fd29 ["text"] (spF K F_read_version) := def_ok t29 E29 sc_read_version rfl (by decide) c_read_version
  have t30 : TabOk 30 T30 P w K mg base := (t29.mono (by decide)).add m29 E29.kp B29 o29 w29
  have o30 : FnOk P w K mg base CX0 31 _ fd30 ["well", "many"] (spF K F_l_take) := def_ok t30 E30 sc_l_take rfl (by decide) c_l_take
  have t31 : TabOk 31 T31 P w K mg base := (t30.mono (by decide)).add m30 E30.kp B30 o30 w30
  have r31 : ∀ d, FnOk P w K mg base CX0 (31 + d) _ fd31 ["told", "due"] (spF K ⟨[false, false], R_l_same d⟩) := fun d => by
    induction d with
    | zero => exact fn_none
    | succ d ih => exact def_ok ((t31.mono (Nat.le_add_right _ _)).add m31 E31.kp B31 ih w31) E31 sc_l_same rfl (by decide) (c_l_same _)
  have o31 : FnOk P w K mg base CX0 39 _ fd31 ["told", "due"] (spF K F_l_same) := r31 8
  have t32 : TabOk 39 T32 P w K mg base := (t31.mono (by decide)).add m31 E31.kp B31 o31 w31
  have o32 : FnOk P w K mg base CX0 40 _ fd32 ["well", "things"] (spF K F_l_of) := def_ok t32 E32 sc_l_of rfl (by decide) c_l_of
  have t33 : TabOk 40 T33 P w K mg base := (t32.mono (by decide)).add m32 E32.kp B32 o32 w32
  have r33 : ∀ d, FnOk P w K mg base CX0 (40 + d) _ fd33 ["things"] (spF K ⟨[false], R_l_rising d⟩) := fun d => by
    induction d with
    | zero => exact fn_none
    | succ d ih => exact def_ok ((t33.mono (Nat.le_add_right _ _)).add m33 E33.kp B33 ih w33) E33 sc_l_rising rfl (by decide) (c_l_rising _)
  have o33 : FnOk P w K mg base CX0 46 _ fd33 ["things"] (spF K F_l_rising) := r33 6
  have t34 : TabOk 46 T34 P w K mg base := (t33.mono (by decide)).add m33 E33.kp B33 o33 w33
  have o34 : FnOk P w K mg base CX0 47 _ fd34 ["well", "many"] (spF K F_l_names) := def_ok t34 E34 sc_l_names rfl (by decide) c_l_names
  have t35 : TabOk 47 T35 P w K mg base := (t34.mono (by decide)).add m34 E34.kp B34 o34 w34
  have o35 : FnOk P w K mg base CX0 48 _ fd35 ["well", "names", "most", "outside"] (spF K F_l_hosts) := def_ok t35 E35 sc_l_hosts rfl (by decide) c_l_hosts
  have t36 : TabOk 48 T36 P w K mg base := (t35.mono (by decide)).add m35 E35.kp B35 o35 w35
  have o36 : FnOk P w K mg base CX0 49 _ fd36 ["well", "names", "most"] (spF K F_l_version) := def_ok t36 E36 sc_l_version rfl (by decide) c_l_version
  have t37 : TabOk 49 T37 P w K mg base := (t36.mono (by decide)).add m36 E36.kp B36 o36 w36
  have o37 : FnOk P w K mg base CX0 50 _ fd37 ["version"] (spF K F_l_text_of) := def_ok t37 E37 sc_l_text_of rfl (by decide) c_l_text_of
  have t38 : TabOk 50 T38 P w K mg base := (t37.mono (by decide)).add m37 E37.kp B37 o37 w37
  have tx0 : TabXOk 50 TX0 P w K mg base := ((TabXOk.nil).addC ke0).addC ke1
  have ty0 : TabOk 50 T38 P w K mg base := t38
  have ox0 : FnOk P w K mg base (L2.CX P w) 51 _ fd29 ["text"] (spX K mg FX_read_version) := def_okX ty0 tx0 (by decide) E29 sc_read_version (by decide) cx_read_version
  have tx1 : TabXOk 51 TX1 P w K mg base := (tx0.mono (by decide)).add m29 E29.kp B29 ox0 (fun ks pm h => w29 0 ks pm h)
  have ty1 : TabOk 51 T38 P w K mg base := t38.mono (by decide)
  have t38 : TabOk 51 T38 P w K mg base := ty1
  have o38 : FnOk P w K mg base CX0 52 _ fd38 ["text", "way"] (spF K F_l_asked) := def_try t38 (tx1.mono (by decide)) (by decide) E38 sc_l_asked rfl (by decide) c_l_asked
  have t39 : TabOk 52 T39 P w K mg base := (t38.mono (by decide)).add m38 E38.kp B38 o38 w38
  have o39 : FnOk P w K mg base CX0 53 _ fd39 ["value"] (spF K F_l_is_name) := def_ok t39 E39 sc_l_is_name rfl (by decide) c_l_is_name
  have t40 : TabOk 53 T40 P w K mg base := (t39.mono (by decide)).add m39 E39.kp B39 o39 w39
  have o40 : FnOk P w K mg base CX0 54 _ fd40 ["value", "outside", "most"] (spF K F_l_are_hosts) := def_ok t40 E40 sc_l_are_hosts rfl (by decide) c_l_are_hosts
  have t41 : TabOk 54 T41 P w K mg base := (t40.mono (by decide)).add m40 E40.kp B40 o40 w40
  have o41 : FnOk P w K mg base CX0 55 _ fd41 ["value"] (spF K F_l_are_rows) := def_ok t41 E41 sc_l_are_rows rfl (by decide) c_l_are_rows
  have t42 : TabOk 55 T42 P w K mg base := (t41.mono (by decide)).add m41 E41.kp B41 o41 w41
  have o42 : FnOk P w K mg base CX0 56 _ fd42 ["word"] (spF K F_l_host_of) := def_ok t42 E42 sc_l_host_of rfl (by decide) c_l_host_of
  have t43 : TabOk 56 T43 P w K mg base := (t42.mono (by decide)).add m42 E42.kp B42 o42 w42
  have o43 : FnOk P w K mg base CX0 57 _ fd43 ["row"] (spF K F_l_row_of) := def_ok t43 E43 sc_l_row_of rfl (by decide) c_l_row_of
  have t44 : TabOk 57 T44 P w K mg base := (t43.mono (by decide)).add m43 E43.kp B43 o43 w43
  have o44 : FnOk P w K mg base CX0 58 _ fd44 ["row"] (spF K F_l_serial_of) := def_ok t44 E44 sc_l_serial_of rfl (by decide) c_l_serial_of
  have t45 : TabOk 58 T45 P w K mg base := (t44.mono (by decide)).add m44 E44.kp B44 o44 w44
  have o45 : FnOk P w K mg base CX0 59 _ fd45 ["text"] (spF K F_l_read) := def_ok t45 E45 sc_l_read rfl (by decide) c_l_read
  have t46 : TabOk 59 T46 P w K mg base := (t45.mono (by decide)).add m45 E45.kp B45 o45 w45
  have o46 : FnOk P w K mg base CX0 60 _ fd46 ["well", "text"] (spF K F_l_is_told) := def_ok t46 E46 sc_l_is_told rfl (by decide) c_l_is_told
  have t47 : TabOk 60 T47 P w K mg base := (t46.mono (by decide)).add m46 E46.kp B46 o46 w46
  have o47 : FnOk P w K mg base CX0 61 _ fd47 ["well", "text"] (spF K F_l_bent) := def_ok t47 E47 sc_l_bent rfl (by decide) c_l_bent
  have t48 : TabOk 61 T48 P w K mg base := (t47.mono (by decide)).add m47 E47.kp B47 o47 w47
  have o48 : FnOk P w K mg base CX0 62 _ fd48 ["well"] (spF K F_l_edges) := def_ok t48 E48 sc_l_edges rfl (by decide) c_l_edges
  have t49 : TabOk 62 T49 P w K mg base := (t48.mono (by decide)).add m48 E48.kp B48 o48 w48
  have o49 : FnOk P w K mg base CX0 63 _ fd49 ["well"] (spF K F_l_right) := def_ok t49 E49 sc_l_right rfl (by decide) c_l_right
  have t50 : TabOk 63 T50 P w K mg base := (t49.mono (by decide)).add m49 E49.kp B49 o49 w49
  have o50 : FnOk P w K mg base CX0 64 _ fd50 ["script"] (spF K F_law) := def_ok t50 E50 sc_law rfl (by decide) c_law
  exact o50
end K72
namespace K72
open PySem PySem.Spec L2 Z
open PyProof.Rows hiding St

/-! ## texts in their order -/
def slt (a b : Str) : Bool := decide (a.cps.toList < b.cps.toList)
theorem slt_irr (a : Str) : slt a a = false := decide_eq_false (List.lt_irrefl _)
theorem slt_tr {a b c : Str} (h : slt a b = true) (g : slt b c = true) : slt a c = true := decide_eq_true (List.lt_trans (of_decide_eq_true h) (of_decide_eq_true g))
theorem slt_tri (a b : Str) : slt a b = true ∨ a = b ∨ slt b a = true := by
  by_cases h : a.cps.toList < b.cps.toList
  · exact .inl (decide_eq_true h)
  · by_cases g : b.cps.toList < a.cps.toList
    · exact .inr (.inr (decide_eq_true g))
    · exact .inr (.inl (PySem.W.str_of_cps (List.le_antisymm (List.not_lt.mp g) (List.not_lt.mp h))))
abbrev Host := Str × Str
abbrev Ent := Str × List Host
def hlt (p q : Host) : Bool := if p.1 = q.1 then slt p.2 q.2 else slt p.1 q.1
theorem hlt_irr (p : Host) : hlt p p = false := by unfold hlt; rw [if_pos rfl]; exact slt_irr _
theorem hlt_tri (p q : Host) : hlt p q = true ∨ p = q ∨ hlt q p = true := by
  unfold hlt
  by_cases h : p.1 = q.1
  · rw [if_pos h, if_pos h.symm]
    rcases slt_tri p.2 q.2 with h2 | h2 | h2
    · exact .inl h2
    · exact .inr (.inl (Prod.ext h h2))
    · exact .inr (.inr h2)
  · rw [if_neg h, if_neg fun e => h e.symm]
    rcases slt_tri p.1 q.1 with h2 | h2 | h2
    · exact .inl h2
    · exact absurd h2 h
    · exact .inr (.inr h2)
theorem hlt_tr {p q r : Host} (h : hlt p q = true) (g : hlt q r = true) : hlt p r = true := by
  unfold hlt at *
  split at h <;> split at g
  · rename_i a b
    rw [if_pos (a.trans b)]; exact slt_tr h g
  · rename_i a b
    rw [if_neg (fun e => b (a.symm.trans e)), a]; exact g
  · rename_i a b
    rw [if_neg (fun e => a (e.trans b.symm)), ← b]; exact h
  · rename_i a b
    have k := slt_tr h g
    have n : ¬ p.1 = r.1 := fun e => by rw [e, slt_irr] at k; cases k
    rw [if_neg n]; exact k
section
variable {α : Type} {lt : α → α → Bool}
theorem le_trans_of (tr : ∀ {a b c}, lt a b = true → lt b c = true → lt a c = true) (tri : ∀ a b, lt a b = true ∨ a = b ∨ lt b a = true) (a b c : α) (h : (!lt b a) = true) (g : (!lt c b) = true) : (!lt c a) = true := by
  cases q : lt c a with
  | false => rfl
  | true =>
    rcases tri b c with k | k | k
    · have := tr k q; rw [this] at h; cases h
    · subst k; rw [q] at h; cases h
    · rw [k] at g; cases g
theorem le_total_of (irr : ∀ a, lt a a = false) (tr : ∀ {a b c}, lt a b = true → lt b c = true → lt a c = true) (a b : α) : ((!lt b a) || (!lt a b)) = true := by
  cases q : lt b a with
  | false => rfl
  | true =>
    cases k : lt a b with
    | false => rfl
    | true => have := tr q k; rw [irr] at this; cases this
theorem sort_rise (irr : ∀ a, lt a a = false) (tr : ∀ {a b c}, lt a b = true → lt b c = true → lt a c = true) (tri : ∀ a b, lt a b = true ∨ a = b ∨ lt b a = true) {l : List α} (nd : l.Nodup) :
    (l.mergeSort fun a b => !lt b a).Pairwise fun a b => lt a b = true := by
  have h := List.pairwise_mergeSort (le := fun a b => !lt b a) (le_trans_of tr tri) (le_total_of irr tr) l
  have g : (l.mergeSort fun a b => !lt b a).Nodup := (List.mergeSort_perm l _).nodup_iff.mpr nd
  exact (List.pairwise_and_iff.mpr ⟨h, g⟩).imp fun {a b} ⟨h1, h2⟩ => by
    rcases tri a b with k | k | k
    · exact k
    · exact absurd k h2
    · rw [k] at h1; cases h1
end
/-! ## books -/
def hostD (h : Host) : D := .tuple [.str h.1, .str h.2]
def entD (e : Ent) : D := .tuple [.str e.1, .tuple (e.2.map hostD)]
structure Bk where
  ents : List Ent
  glue : List Host
def Bk.d (b : Bk) : D := .tuple [.tuple (b.ents.map entD), .tuple (b.glue.map hostD)]
abbrev abc : Str := "abcdefghijklmnopqrstuvwxyz"
def nameS (s : Str) : Bool := decide (1 ≤ s.length) && decide (s.length ≤ 8) && s.cps.toList.all fun c => signIn c abc
def HostOk (h : Host) : Prop := nameS h.1 = true ∧ (h.2 = "" ∨ nameS h.2 = true)
structure Bk.Ok (b : Bk) : Prop where
  many : b.ents.length ≤ 8
  names : ∀ e ∈ b.ents, nameS e.1 = true
  rise : (b.ents.map (·.1)).Pairwise fun a c => slt a c = true
  few : ∀ e ∈ b.ents, e.2.length ≤ 4
  hosts : ∀ e ∈ b.ents, ∀ h ∈ e.2, HostOk h
  unlike : ∀ e ∈ b.ents, e.2.Nodup
  gmany : b.glue.length ≤ 12
  ghosts : ∀ h ∈ b.glue, HostOk h ∧ h.2 ≠ ""
  grise : b.glue.Pairwise fun a c => hlt a c = true
theorem nameS_len {s : Str} (h : nameS s = true) : 1 ≤ s.length ∧ s.length ≤ 8 := by
  unfold nameS at h
  simp only [Bool.and_eq_true, decide_eq_true_eq] at h
  exact h.1
theorem nameS_ne {s : Str} (h : nameS s = true) : s ≠ "" := fun e => by
  have := (nameS_len h).1
  rw [e] at this
  exact absurd this (by decide)
theorem hostD_inj {p q : Host} (h : hostD p = hostD q) : p = q := by
  obtain ⟨a, b⟩ := p
  obtain ⟨c, d⟩ := q
  unfold hostD at h
  injection h with h
  injection h with h1 h2
  injection h2 with h2 _
  injection h1 with h1
  injection h2 with h2
  exact Prod.ext h1 h2
theorem eqv_host (p q : Host) : PyData.eqv (hostD p) (hostD q) = decide (p = q) := by
  obtain ⟨a, b⟩ := p
  obtain ⟨c, d⟩ := q
  have e : PyData.eqv (hostD (a, b)) (hostD (c, d)) = (PyData.eqv (.str a) (.str c) && (PyData.eqv (.str b) (.str d) && true)) := by
    unfold hostD
    simp only [PyData.eqv, PyData.eqvAll]
  rw [e, x_eqvS, x_eqvS]
  by_cases h1 : a = c <;> by_cases h2 : b = d <;> (first | (simp (implicitDefEqProofs := false) [h1, h2]; done) | simp [h1, h2])
theorem any_host (l : List Host) (p : Host) : ((l.map hostD).any fun y => PyData.eqv y (hostD p)) = decide (p ∈ l) := by
  induction l with
  | nil => simp
  | cons q l ih =>
    rw [List.map_cons, List.any_cons, ih, eqv_host]
    by_cases h : q = p
    · (first | (simp (implicitDefEqProofs := false) [h]; done) | simp [h])
    · have h' : ¬ p = q := fun e => h e.symm
      (first | (simp (implicitDefEqProofs := false) [h, h']; done) | simp [h, h'])
theorem any_str (l : List Str) (p : Str) : ((l.map PyData.str).any fun y => PyData.eqv y (.str p)) = decide (p ∈ l) := by
  induction l with
  | nil => simp
  | cons q l ih =>
    rw [List.map_cons, List.any_cons, ih, x_eqvS]
    by_cases h : q = p
    · (first | (simp (implicitDefEqProofs := false) [h]; done) | simp [h])
    · have h' : ¬ p = q := fun e => h e.symm
      (first | (simp (implicitDefEqProofs := false) [h, h']; done) | simp [h, h'])
theorem noD_host (l : List Host) : noDicts (l.map hostD) = true := by
  induction l with
  | nil => rfl
  | cons q l ih => rw [List.map_cons, noDicts, ih]; rfl
theorem noD_str (l : List Str) : noDicts (l.map PyData.str) = true := by
  induction l with
  | nil => rfl
  | cons q l ih => rw [List.map_cons, noDicts, ih]; rfl
theorem okE_host (p : Host) : okE (hostD p) = true := rfl
theorem in_hostL (p : Host) (l : List Host) : inD (hostD p) (.list (l.map hostD)) = some (.v (.bool (decide (p ∈ l)))) := by
  rw [← any_host]
  show (if okE (hostD p) && noDicts (l.map hostD) then bl _ else none) = _
  rw [okE_host, noD_host]; rfl
theorem in_hostT (p : Host) (l : List Host) : inD (hostD p) (.tuple (l.map hostD)) = some (.v (.bool (decide (p ∈ l)))) := by
  rw [← any_host]
  show (if okE (hostD p) && noDicts (l.map hostD) then bl _ else none) = _
  rw [okE_host, noD_host]; rfl
theorem in_strL (p : Str) (l : List Str) : inD (.str p) (.list (l.map .str)) = some (.v (.bool (decide (p ∈ l)))) := by
  rw [← any_str]
  show (if okE (.str p) && noDicts (l.map PyData.str) then bl _ else none) = _
  rw [noD_str]; rfl
theorem in_strT (p : Str) (l : List Str) : inD (.str p) (.tuple (l.map .str)) = some (.v (.bool (decide (p ∈ l)))) := by
  rw [← any_str]
  show (if okE (.str p) && noDicts (l.map PyData.str) then bl _ else none) = _
  rw [noD_str]; rfl
theorem alike_host (p q : Host) : PySem.W.alike (hostD p) (hostD q) = true := by
  unfold hostD
  rw [PySem.W.alike, PySem.W.alikeAll, PySem.W.alikeAll, PySem.W.alikeAll]
  rfl
theorem dataLt_host (p q : Host) : PySem.W.dataLt (hostD p) (hostD q) = hlt p q := by
  obtain ⟨a, b⟩ := p
  obtain ⟨c, d⟩ := q
  unfold hostD
  rw [PySem.W.dataLt_pair (by rfl) (by rfl), PySem.W.dataLt_str, PySem.W.dataLt_str, x_eqvS, x_eqvS]
  unfold hlt slt
  by_cases h1 : a = c <;> by_cases h2 : b = d <;> (first | (simp (implicitDefEqProofs := false) [h1, h2]; done) | simp [h1, h2])
theorem lt_host (p q : Host) : ltD (hostD p) (hostD q) = some (.v (.bool (hlt p q))) := by
  show (if cmpOk (hostD p) (hostD q) then bl (PySem.W.dataLt (hostD p) (hostD q)) else none) = _
  have e : cmpOk (hostD p) (hostD q) = true := by
    unfold cmpOk
    rw [okE_host, okE_host, alike_host]; rfl
  rw [e, dataLt_host]; rfl
theorem lt_str (a b : Str) : ltD (.str a) (.str b) = some (.v (.bool (slt a b))) := rfl
theorem le_str (a b : Str) : leD (.str a) (.str b) = some (.v (.bool (!slt b a))) := by
  show (if cmpOk (.str a) (.str b) then bl (!PySem.W.dataLt (.str b) (.str a)) else none) = _
  have e : cmpOk (.str a) (.str b) = true := by
    unfold cmpOk
    rw [PySem.W.alike]; rfl
  rw [e, PySem.W.dataLt_str]; rfl
theorem sorted_str {l : List Str} : sortedD [.list (l.map .str)] = some (.o (.list ((l.mergeSort fun a b => !slt b a).map .str))) := by
  show srtD (l.map .str) = _
  have e : srtOk (l.map PyData.str) = true := by
    unfold srtOk
    simp only [Bool.and_eq_true, List.all_eq_true]
    refine ⟨fun d hd e he => ?_, fun d hd => ?_, ?_⟩
    · obtain ⟨a, _, rfl⟩ := List.mem_map.mp hd
      obtain ⟨b, _, rfl⟩ := List.mem_map.mp he
      rw [PySem.W.alike]
    · obtain ⟨a, _, rfl⟩ := List.mem_map.mp hd
      rfl
    · rw [Bool.or_eq_true]
      refine .inr (List.all_eq_true.mpr fun d hd => ?_)
      obtain ⟨a, _, rfl⟩ := List.mem_map.mp hd
      rfl
  rw [srtD_ok e]
  unfold sortL
  congr 3
  refine (List.map_mergeSort fun a _ b _ => ?_).symm
  show (!slt b a) = (!PySem.W.dataLt (.str b) (.str a))
  rw [PySem.W.dataLt_str]; rfl
theorem sorted_host {l : List Host} : sortedD [.list (l.map hostD)] = some (.o (.list ((l.mergeSort fun a b => !hlt b a).map hostD))) := by
  show srtD (l.map hostD) = _
  have e : srtOk (l.map hostD) = true := by
    unfold srtOk
    simp only [Bool.and_eq_true, List.all_eq_true]
    refine ⟨fun d hd e he => ?_, fun d hd => ?_, ?_⟩
    · obtain ⟨a, _, rfl⟩ := List.mem_map.mp hd
      obtain ⟨b, _, rfl⟩ := List.mem_map.mp he
      exact alike_host _ _
    · obtain ⟨a, _, rfl⟩ := List.mem_map.mp hd
      rfl
    · rw [Bool.or_eq_true]
      refine .inl (List.all_eq_true.mpr fun d hd => ?_)
      obtain ⟨a, _, rfl⟩ := List.mem_map.mp hd
      rfl
  rw [srtD_ok e]
  unfold sortL
  congr 3
  refine (List.map_mergeSort fun a _ b _ => ?_).symm
  show (!hlt b a) = (!PySem.W.dataLt (hostD b) (hostD a))
  rw [dataLt_host]
end K72
namespace K72
open PySem PySem.Spec L2 Z
open PyProof.Rows hiding St

/-! ## what is drawn from -/
def Well (d : D) : Prop := ∃ w : Lt.W, d = w.d ∧ w.Ok
theorem take_run (w : Lt.W) {m : Int} (hm : 0 < m) (hm2 : m < 1073741824) : F_l_take.run [w.d, .int m] = some (.v (.int (Lt.take m w)), [(Lt.next m w).d]) := by
  obtain ⟨a, b, c⟩ := w
  rw [u_l_take, x_run _ _ _ _ rfl, b_l_take]
  by_cases h : 0 < a
  · (first | (simp (implicitDefEqProofs := false) [Lt.W.d, Lt.take, Lt.next, h, hm, hm2]; done) | simp [Lt.W.d, Lt.take, Lt.next, h, hm, hm2])
  · (first | (simp (implicitDefEqProofs := false) [Lt.W.d, Lt.take, Lt.next, h, hm, hm2]; done) | simp [Lt.W.d, Lt.take, Lt.next, h, hm, hm2])
theorem take_well {d : D} {m : Int} (h : Well d) (hm : 0 < m) (hm2 : m < 1073741824) : ∃ (r : Int) (d' : D), F_l_take.run [d, .int m] = some (.v (.int r), [d']) ∧ 0 ≤ r ∧ r < m ∧ Well d' := by
  obtain ⟨w, rfl, hw⟩ := h
  obtain ⟨r0, r1⟩ := Lt.take_in (w := w) hm
  exact ⟨_, _, take_run w hm hm2, r0, r1, _, rfl, Lt.next_ok hm hw⟩
theorem at_mem {ds : List D} {r : Int} (r0 : 0 ≤ r) (r1 : r < ds.length) : ∃ x, atI ds r = some x ∧ x ∈ ds := by
  have := atI_of (xs := ds) (j := r.toNat)
  rw [Int.toNat_of_nonneg r0] at this
  exact ⟨ds[r.toNat], by rw [this, List.getElem?_eq_getElem (by omega)], List.getElem_mem _⟩
theorem of_well {d : D} {ds : List D} (h : Well d) (h0 : 0 < ds.length) (h1 : ds.length < 1000) : ∃ (x d' : D), F_l_of.run [d, .tuple ds] = some (.v x, [d']) ∧ x ∈ ds ∧ Well d' := by
  obtain ⟨r, d', h2, r0, r1, w⟩ := take_well (m := (ds.length : Int)) h (by omega) (by omega)
  obtain ⟨x, e, hx⟩ := at_mem r0 r1
  refine ⟨x, d', ?_, hx, w⟩
  rw [u_l_of, x_run _ _ _ _ rfl, b_l_of]
  (first | (simp (implicitDefEqProofs := false) [h2, e]; done) | simp [h2, e])
theorem of_wellL {d : D} {ds : List D} (h : Well d) (h0 : 0 < ds.length) (h1 : ds.length < 1000) : ∃ (x d' : D), F_l_of.run [d, .list ds] = some (.v x, [d']) ∧ x ∈ ds ∧ Well d' := by
  obtain ⟨r, d', h2, r0, r1, w⟩ := take_well (m := (ds.length : Int)) h (by omega) (by omega)
  obtain ⟨x, e, hx⟩ := at_mem r0 r1
  refine ⟨x, d', ?_, hx, w⟩
  rw [u_l_of, x_run _ _ _ _ rfl, b_l_of]
  (first | (simp (implicitDefEqProofs := false) [h2, e]; done) | simp [h2, e])
theorem up_get {n : Nat} {d : D} {lo : Int} (h : d ∈ Z.upTo lo n) : ∃ i : Int, d = .int i ∧ lo ≤ i ∧ i < lo + n := by
  unfold Z.upTo at h
  obtain ⟨i, hi, e⟩ := List.mem_map.mp h
  exact ⟨_, e.symm, by omega, by have := List.mem_range.mp hi; omega⟩
theorem up_len (lo : Int) (n : Nat) : (Z.upTo lo n).length = n := by unfold Z.upTo; rw [List.length_map, List.length_range]
theorem rng_m {m : Nat} (h : m ≤ 1000) : rng1 [.int (m : Int)] = some (Z.upTo 0 m) := x_rng1 (j := (m : Int)) (by omega) (by omega)
theorem rng_i {m : Int} (h0 : 0 ≤ m) (h : m ≤ 1000) : rng1 [.int m] = some (Z.upTo 0 m.toNat) := x_rng1 (by omega) (by omega)
/-! ## drawn names -/
abbrev tx (l : List Nat) : Str := ⟨l.toArray⟩
theorem tx_inj {l k : List Nat} (h : tx l = tx k) : l = k := by
  have := congrArg (fun s : Str => s.cps.toList) h
  simpa using this
theorem tx_of (s : Str) : s = tx s.cps.toList := by
  apply PySem.W.str_of_cps
  simp
theorem tx_len (l : List Nat) : (tx l).length = l.length := by
  show l.toArray.size = _
  simp
theorem tx_app (l k : List Nat) : tx l ++ tx k = tx (l ++ k) := by
  apply PySem.W.str_of_cps
  show (l.toArray ++ k.toArray).toList = _
  simp
theorem abc_cp : ∀ i : Nat, i < 26 → abc.cps.toList[i]? = some (97 + i) := by decide +kernel
theorem abc_len : abc.cps.toList.length = 26 := by decide
theorem abc_mem {i : Nat} (h : i < 26) : 97 + i ∈ abc.cps.toList := List.mem_of_getElem? (abc_cp i h)
theorem abc_ix {r : Int} (h0 : 0 ≤ r) (h1 : r < 26) : ixD (.str abc) (.int r) = some (.v (.str (tx [97 + r.toNat]))) := by
  have e : atI abc.cps.toList r = some (97 + r.toNat) := by
    have k : ixN abc.cps.toList.length r = some r.toNat := by
      rw [abc_len]
      unfold ixN
      rw [if_pos h0, if_pos (by omega)]
    unfold atI
    rw [k]
    show abc.cps.toList[r.toNat]? = _
    exact abc_cp _ (by omega)
  show (if szb abc.length then (atI abc.cps.toList r).map (fun c => RV.v (.str ⟨#[c]⟩)) else none) = _
  rw [show szb abc.length = true by decide, if_pos rfl, e]
  rfl
def LetL (l : List Nat) : Prop := ∀ c ∈ l, c ∈ abc.cps.toList
theorem nameS_of {l : List Nat} (h1 : 1 ≤ l.length) (h2 : l.length ≤ 8) (h : LetL l) : nameS (tx l) = true := by
  unfold nameS
  rw [tx_len, decide_eq_true h1, decide_eq_true h2, Bool.true_and, Bool.true_and, List.all_eq_true]
  intro c hc
  exact decide_eq_true (h c (by simpa using hc))
theorem nx_let {l : List Nat} {i : Nat} (h : LetL l) (hi : i < 26) : LetL (Lt.nx l (97 + i)) := by
  have h2 : LetL (l.drop 1 ++ [97 + i, 113]) := by
    intro c hc
    rcases List.mem_append.mp hc with q | q
    · exact h c (List.mem_of_mem_drop q)
    · simp only [List.mem_cons, List.not_mem_nil, or_false] at q
      rcases q with rfl | rfl
      · exact abc_mem hi
      · exact abc_mem (i := 16) (by omega)
  unfold Lt.nx
  split
  · exact fun c hc => h2 c (List.mem_of_mem_drop hc)
  · exact h2
theorem add_tx {l k : List Nat} (h : l.length + k.length ≤ 1000) : addD (.str (tx l)) (.str (tx k)) = some (.v (.str (tx (l ++ k)))) := by
  rw [x_addS (by rw [tx_len, tx_len]; omega), tx_app]
theorem len_tx {l : List Nat} (h : l.length ≤ 1000) : lenD [.str (tx l)] = some (.v (.int l.length)) := by
  show (if szb (tx l).length then some (RV.v (.int (tx l).length)) else none) = _
  rw [tx_len, show szb l.length = true from decide_eq_true (by omega)]; rfl
theorem cut_tx {l : List Nat} (k : Nat) (h : l.length ≤ 1000) : slD (.str (tx l)) (some (k : Int)) none = some (.v (.str (tx (l.drop k)))) := by
  have hz : szb (tx l).length = true := by rw [tx_len]; exact decide_eq_true (by omega)
  show (if szb (tx l).length then some (RV.v (.str (cutS (tx l) (some (k : Int)) none))) else none) = _
  rw [if_pos hz]
  congr 3
  unfold cutS
  rw [HT.sIx_none, HT.sIx_nat, tx_len]
  show (⟨((l.toArray.toList.drop (min k l.length)).take (l.length - min k l.length)).toArray⟩ : Str) = _
  rw [show l.toArray.toList = l by simp]
  congr 2
  by_cases h : k ≤ l.length
  · rw [Nat.min_eq_left h, List.take_of_length_le (by rw [List.length_drop]; omega)]
  · rw [Nat.min_eq_right (by omega), List.drop_length, List.take_nil, List.drop_of_length_le (by omega)]
theorem in_us (l : List Nat) (us : List Str) : inD (.str (tx l)) (.list (us.map .str)) = some (.v (.bool (decide (l ∈ us.map fun s => s.cps.toList)))) := by
  rw [in_strL]
  congr 4
  apply propext
  constructor
  · intro h
    exact List.mem_map.mpr ⟨_, h, by simp⟩
  · intro h
    obtain ⟨s, hs, e⟩ := List.mem_map.mp h
    rw [← e, ← tx_of]; exact hs
theorem letter_loop (o1 o2 o3 : Option RV) : ∀ (ds : List D) (w : Lt.W) (l : List Nat) (o5 : Option RV), w.Ok → l.length + ds.length ≤ 8 → LetL l →
    ∃ (w' : Lt.W) (l' : List Nat) (t5 : Option RV), forL (gN [0] 5) q_l_names_3 ds [some (.o w.d), o1, o2, o3, some (.v (.str (tx l))), o5] = some (.nx, [some (.o w'.d), o1, o2, o3, some (.v (.str (tx l'))), t5]) ∧ w'.Ok ∧ l'.length = l.length + ds.length ∧ LetL l'
  | [], w, l, o5, hw, hl, ha => ⟨w, l, o5, rfl, hw, rfl, ha⟩
  | e :: ds, w, l, o5, hw, hl, ha => by
    rw [List.length_cons] at hl
    have e1 := take_run w (m := 26) (by decide) (by decide)
    obtain ⟨r0, r1⟩ := Lt.take_in (w := w) (m := 26) (by decide)
    have e2 := abc_ix r0 r1
    have e3 := add_tx (l := l) (k := [97 + (Lt.take 26 w).toNat]) (by rw [List.length_singleton]; omega)
    obtain ⟨w', l', t5, h, a, b, c⟩ := letter_loop o1 o2 o3 ds (Lt.next 26 w) (l ++ [97 + (Lt.take 26 w).toNat]) (some (.v e)) (Lt.next_ok (by decide) hw) (by rw [List.length_append, List.length_singleton]; omega)
      (fun c hc => (List.mem_append.mp hc).elim (ha c) fun q => by rw [List.mem_singleton.mp q]; exact abc_mem (by omega))
    refine ⟨w', l', t5, ?_, a, by rw [b, List.length_append, List.length_singleton, List.length_cons]; omega, c⟩
    have g : gN [0] 5 e [some (.o w.d), o1, o2, o3, some (.v (.str (tx l))), o5] = some [some (.o w.d), o1, o2, o3, some (.v (.str (tx l))), some (.v e)] := rfl
    have body : q_l_names_3 [some (.o w.d), o1, o2, o3, some (.v (.str (tx l))), some (.v e)] = some (.nx, [some (.o (Lt.next 26 w).d), o1, o2, o3, some (.v (.str (tx (l ++ [97 + (Lt.take 26 w).toNat])))), some (.v e)]) := by
      generalize tx (l ++ [97 + (Lt.take 26 w).toNat]) = s2 at e3
      generalize tx [97 + (Lt.take 26 w).toNat] = s1 at e2 e3
      generalize tx l = s0 at e3
      generalize (Lt.next 26 w).d = d2 at e1
      generalize w.d = d1 at e1
      (first | (simp (implicitDefEqProofs := false) [q_l_names_3, e1, e2, e3]; done) | simp [q_l_names_3, e1, e2, e3])
    unfold forL
    rw [g, Option.bind_some, body]
    exact h
theorem more_run (o1 o3 o5 : Option RV) (us : List Str) (w : Lt.W) (l : List Nat) (h1 : 1 ≤ l.length) (h8 : l.length ≤ 8) : q_l_names_2 [some (.o w.d), o1, some (.o (.list (us.map .str))), o3, some (.v (.str (tx l))), o5] =
    some (.nx, [some (.o (Lt.next 26 w).d), o1, some (.o (.list (us.map .str))), o3, some (.v (.str (tx (Lt.nx l (97 + (Lt.take 26 w).toNat))))), o5]) := by
  have e1 := take_run w (m := 26) (by decide) (by decide)
  obtain ⟨r0, r1⟩ := Lt.take_in (w := w) (m := 26) (by decide)
  have e2 := abc_ix r0 r1
  have e3 : slD (.str (tx l)) (some 1) none = some (.v (.str (tx (l.drop 1)))) := cut_tx 1 (by omega)
  have e4 := add_tx (l := l.drop 1) (k := [97 + (Lt.take 26 w).toNat]) (by rw [List.length_singleton, List.length_drop]; omega)
  have e5 := add_tx (l := l.drop 1 ++ [97 + (Lt.take 26 w).toNat]) (k := [113]) (by rw [List.length_append, List.length_singleton, List.length_singleton, List.length_drop]; omega)
  have q : ("q" : Str) = tx [113] := rfl
  have en : l.drop 1 ++ [97 + (Lt.take 26 w).toNat] ++ [113] = l.drop 1 ++ [97 + (Lt.take 26 w).toNat, 113] := by simp
  rw [en] at e5
  have e6 := len_tx (l := l.drop 1 ++ [97 + (Lt.take 26 w).toNat, 113]) (by simp; omega)
  have e7 : slD (.str (tx (l.drop 1 ++ [97 + (Lt.take 26 w).toNat, 113]))) (some 2) none = some (.v (.str (tx ((l.drop 1 ++ [97 + (Lt.take 26 w).toNat, 113]).drop 2)))) := cut_tx 2 (by simp; omega)
  unfold Lt.nx
  generalize hL : l.drop 1 ++ [97 + (Lt.take 26 w).toNat, 113] = L at e5 e6 e7
  by_cases c : 8 < L.length
  · rw [if_pos c]
    have c' : 8 < (L.length : Int) := by omega
    generalize tx (L.drop 2) = s4 at e7
    generalize tx L = s3 at e5 e6 e7
    generalize tx (l.drop 1 ++ [97 + (Lt.take 26 w).toNat]) = s2 at e4 e5
    generalize tx [97 + (Lt.take 26 w).toNat] = s1 at e2 e4
    generalize tx (l.drop 1) = s5 at e3 e4
    generalize tx l = s0 at e3
    generalize (Lt.next 26 w).d = d2 at e1
    generalize w.d = d1 at e1
    rw [← q] at e5
    (first | (simp (implicitDefEqProofs := false) [q_l_names_2, e1, e2, e3, e4, e5, e6, e7, c']; done) | simp [q_l_names_2, e1, e2, e3, e4, e5, e6, e7, c'])
  · rw [if_neg c]
    have c' : ¬ 8 < (L.length : Int) := by omega
    generalize tx (L.drop 2) = s4 at e7
    generalize tx L = s3 at e5 e6 e7
    generalize tx (l.drop 1 ++ [97 + (Lt.take 26 w).toNat]) = s2 at e4 e5
    generalize tx [97 + (Lt.take 26 w).toNat] = s1 at e2 e4
    generalize tx (l.drop 1) = s5 at e3 e4
    generalize tx l = s0 at e3
    generalize (Lt.next 26 w).d = d2 at e1
    generalize w.d = d1 at e1
    rw [← q] at e5
    (first | (simp (implicitDefEqProofs := false) [q_l_names_2, e1, e2, e3, e4, e5, e6, e7, c']; done) | simp [q_l_names_2, e1, e2, e3, e4, e5, e6, e7, c'])
theorem while_run (o1 o3 o5 : Option RV) (us : List Str) (hu : us.length < 26) (w : Lt.W) (l : List Nat) (hw : w.Ok) (h1 : 1 ≤ l.length) (h8 : l.length ≤ 8) (hl : LetL l) :
    ∃ ρ', whileN q_l_names_1 q_l_names_2 5000000000000000000 [some (.o w.d), o1, some (.o (.list (us.map .str))), o3, some (.v (.str (tx l))), o5] = some (.nx, ρ') ∧
      ∃ (w' : Lt.W) (l' : List Nat), ρ' = [some (.o w'.d), o1, some (.o (.list (us.map .str))), o3, some (.v (.str (tx l'))), o5] ∧ w'.Ok ∧ 1 ≤ l'.length ∧ l'.length ≤ 8 ∧ LetL l' ∧ tx l' ∉ us := by
  have hu2 : (us.map fun s => s.cps.toList).length < 26 := by rw [List.length_map]; exact hu
  obtain ⟨n, hn, hx⟩ := Lt.name_comes h1 h8 hw hu2
  refine whileN_ok (I := fun m ρ => ∃ (w : Lt.W) (l : List Nat), ρ = [some (.o w.d), o1, some (.o (.list (us.map .str))), o3, some (.v (.str (tx l))), o5] ∧ w.Ok ∧ 1 ≤ l.length ∧ l.length ≤ 8 ∧ LetL l ∧ (Lt.nsq m (l, w)).1 ∉ us.map fun s => s.cps.toList)
    (fun m ρ hI => ?_) _ n _ (by unfold Lt.lim at hn; omega) ⟨w, l, rfl, hw, h1, h8, hl, hx⟩
  obtain ⟨w, l, rfl, hw, h1, h8, hl, hx⟩ := hI
  have e := in_us l us
  by_cases c : l ∈ us.map fun s => s.cps.toList
  · rw [decide_eq_true c] at e
    cases m with
    | zero => exact absurd c hx
    | succ m =>
      obtain ⟨r0, r1⟩ := Lt.take_in (w := w) (m := 26) (by decide)
      obtain ⟨a, b⟩ := Lt.nx_len (c := 97 + (Lt.take 26 w).toNat) h1 h8
      refine .inr ⟨[some (.o w.d), o1, some (.o (.list (us.map .str))), o3, some (.v (.str (tx l))), o5], _, m, by generalize us.map PyData.str = U at e; (first | (simp (implicitDefEqProofs := false) [q_l_names_1, e]; done) | simp [q_l_names_1, e]), more_run o1 o3 o5 us w l h1 h8, Nat.lt_succ_self _, _, _, rfl, Lt.next_ok (by decide) hw, a, b, nx_let hl (by omega), hx⟩
  · rw [decide_eq_false c] at e
    refine .inl ⟨[some (.o w.d), o1, some (.o (.list (us.map .str))), o3, some (.v (.str (tx l))), o5], by generalize us.map PyData.str = U at e; (first | (simp (implicitDefEqProofs := false) [q_l_names_1, e]; done) | simp [q_l_names_1, e]), w, l, rfl, hw, h1, h8, hl, fun q => c (List.mem_map.mpr ⟨_, q, by simp⟩)⟩
theorem names_loop (o1 : Option RV) : ∀ (ds : List D) (d : D) (us : List Str) (o3 o4 o5 : Option RV), Well d → us.length + ds.length < 26 → us.Nodup → (∀ s ∈ us, nameS s = true) →
    ∃ (d' : D) (us' : List Str) (t3 t4 t5 : Option RV), forL (gN [0] 3) q_l_names_4 ds [some (.o d), o1, some (.o (.list (us.map .str))), o3, o4, o5] = some (.nx, [some (.o d'), o1, some (.o (.list (us'.map .str))), t3, t4, t5]) ∧ Well d' ∧ us'.length = us.length + ds.length ∧ us'.Nodup ∧ ∀ s ∈ us', nameS s = true
  | [], d, us, o3, o4, o5, hd, _, hn, hs => ⟨d, us, o3, o4, o5, rfl, hd, rfl, hn, hs⟩
  | e :: ds, d, us, o3, o4, o5, hd, hl, hn, hs => by
    rw [List.length_cons] at hl
    obtain ⟨m, d1, e1, hm, w1⟩ := of_well (ds := [.int 2, .int 3, .int 8]) hd (by simp) (by simp)
    obtain ⟨k, hk, k0, k8⟩ : ∃ k : Int, m = .int k ∧ 1 ≤ k ∧ k ≤ 8 := by
      simp only [List.mem_cons, List.not_mem_nil, or_false] at hm
      rcases hm with rfl | rfl | rfl <;> exact ⟨_, rfl, by omega, by omega⟩
    subst hk
    obtain ⟨r, d2, e2, r0, r1, w2⟩ := take_well (m := k) w1 (by omega) (by omega)
    obtain ⟨w, rfl, hw⟩ := w2
    have e3 : rng1 [.int (1 + r)] = some (Z.upTo 0 (1 + r).toNat) := rng_i (by omega) (by omega)
    obtain ⟨w3, l, t5, e4, hw3, hll, hlet⟩ := letter_loop o1 (some (.o (.list (us.map .str)))) (some (.v e)) (Z.upTo 0 (1 + r).toNat) w [] o5 hw (by rw [up_len]; simp; omega) (fun c hc => by cases hc)
    rw [up_len] at hll
    simp only [List.length_nil, Nat.zero_add] at hll
    obtain ⟨ρ', e5, w', l', rfl, hw', h1, h8, hlet', hno⟩ := while_run o1 (some (.v e)) t5 us (by omega) w3 l hw3 (by omega) (by omega) hlet
    have hu : (us.map PyData.str).length < 16777216 := by rw [List.length_map]; omega
    have e6 : us.map PyData.str ++ [.str (tx l')] = (us ++ [tx l']).map .str := by rw [List.map_append]; rfl
    obtain ⟨d', us', t3, t4, t5', h, ww, ll, a, b⟩ := names_loop o1 ds w'.d (us ++ [tx l']) (some (.v e)) (some (.v (.str (tx l')))) t5 ⟨w', rfl, hw'⟩ (by rw [List.length_append, List.length_singleton]; omega)
      (List.nodup_append.mpr ⟨hn, by simp, fun x hx y hy q => hno (by rw [List.mem_singleton.mp hy] at q; rw [← q]; exact hx)⟩)
      (fun x hx => (List.mem_append.mp hx).elim (hs x) fun q => by rw [List.mem_singleton.mp q]; exact nameS_of h1 h8 hlet')
    refine ⟨d', us', t3, t4, t5', ?_, ww, by rw [ll, List.length_append, List.length_singleton, List.length_cons]; omega, a, b⟩
    have g : gN [0] 3 e [some (.o d), o1, some (.o (.list (us.map .str))), o3, o4, o5] = some [some (.o d), o1, some (.o (.list (us.map .str))), some (.v e), o4, o5] := rfl
    have body : q_l_names_4 [some (.o d), o1, some (.o (.list (us.map .str))), some (.v e), o4, o5] = some (.nx, [some (.o w'.d), o1, some (.o (.list ((us ++ [tx l']).map .str))), some (.v e), some (.v (.str (tx l'))), t5]) := by
      rw [← e6]
      have q : (tx [] : Str) = ("" : Str) := rfl
      rw [q] at e4
      have e4' := e4
      generalize us.map PyData.str = U at e4 e5 hu
      generalize w.d = dw at e2 e4
      generalize w3.d = dw3 at e4 e5
      generalize w'.d = dw' at e5
      generalize tx l' = sl' at e5
      generalize tx l = sl at e4 e5
      (first | (simp (implicitDefEqProofs := false) [q_l_names_4, e1, e2, e3, e4, e5, hu]; done) | simp [q_l_names_4, e1, e2, e3, e4, e5, hu])
    unfold forL
    rw [g, Option.bind_some, body]
    exact h
end K72
namespace K72
open PySem PySem.Spec L2 Z
open PyProof.Rows hiding St

/-! ## what is asked of anything -/
theorem lcL_fil2 {α : Type} {vs : List Nat} {g : SG} {t : MB} {f : ME} {ρ0 : Rho} (enc : α → D) (p : α → Bool) (h : α → D) {l : List α} (hl : l.length ≤ 16777216)
    (step : ∀ x ∈ l, ∃ ρ1 ρ2, g (enc x) ρ0 = some ρ1 ∧ t ρ1 = some (p x, ρ2) ∧ if p x then ∃ rv ρ3, f ρ2 = some (rv, ρ3) ∧ rv.d = h x ∧ wipeR ρ3 vs = ρ0 else wipeR ρ2 vs = ρ0) :
    lcL vs g t f (l.map enc) ρ0 [] = some ((l.filter p).map h, ρ0) := by
  have gen : ∀ (es : List α) (acc : List D), (∀ d ∈ es, d ∈ l) → acc.length + es.length ≤ 16777216 → lcL vs g t f (es.map enc) ρ0 acc = some (acc ++ (es.filter p).map h, ρ0) := by
    intro es
    induction es with
    | nil => intro acc _ _; rw [List.map_nil]; unfold lcL; rw [List.filter_nil, List.map_nil, List.append_nil]
    | cons d es ih =>
      intro acc hm ha
      obtain ⟨ρ1, ρ2, h1, h2, h3⟩ := step d (hm d List.mem_cons_self)
      rw [List.map_cons]
      unfold lcL
      rw [List.length_cons] at ha
      rw [h1, Option.bind_some, h2, Option.bind_some]
      cases hp : p d with
      | true =>
        rw [hp, if_pos rfl] at h3
        obtain ⟨rv, ρ3, h4, h5, h6⟩ := h3
        simp only [if_true, h4, Option.bind_some, decide_eq_true (show acc.length < 16777216 by omega), h5, h6]
        rw [ih _ (fun e he => hm e (List.mem_cons_of_mem _ he)) (by rw [List.length_append, List.length_singleton]; omega), List.append_assoc, List.filter_cons, if_pos hp]
        rfl
      | false =>
        rw [hp, if_neg Bool.false_ne_true] at h3
        simp only [Bool.false_eq_true, if_false, h3]
        rw [ih _ (fun e he => hm e (List.mem_cons_of_mem _ he)) (by omega), List.filter_cons, if_neg (by rw [hp]; exact Bool.false_ne_true)]
  have := gen l [] (fun _ h => h) (by simpa using hl)
  simpa using this
def fineD : Nat → D → Bool
  | _, .str s => decide (s.length ≤ 4000)
  | k + 1, .tuple ds => ds.all (fineD k)
  | _, _ => true
/-- no long texts in it -/
def Fine (d : D) : Prop := ∀ k, fineD k d = true
def FinL (ds : List D) : Prop := ∀ x ∈ ds, Fine x
theorem fine_tup {ds : List D} : Fine (.tuple ds) ↔ FinL ds := by
  constructor
  · intro h x hx k
    have := h (k + 1)
    exact List.all_eq_true.mp this x hx
  · intro h k
    cases k with
    | zero => rfl
    | succ k => exact List.all_eq_true.mpr fun x hx => h x hx k
theorem fine_str {s : Str} : Fine (.str s) ↔ s.length ≤ 4000 := by
  constructor
  · intro h; exact of_decide_eq_true (h 0)
  · intro h k; cases k <;> exact decide_eq_true h
theorem fine_list (ds : List D) : Fine (.list ds) := fun k => by cases k <;> rfl
theorem fine_dict (ds : List (D × D)) : Fine (.dict ds) := fun k => by cases k <;> rfl
theorem fine_none : Fine (.none : D) := fun k => by cases k <;> rfl
theorem fine_bool (b : Bool) : Fine (.bool b) := fun k => by cases k <;> rfl
theorem fine_int (b : Int) : Fine (.int b) := fun k => by cases k <;> rfl
/-- a comprehension over encoded things -/
theorem lcL_enc {α : Type} {vs : List Nat} {g : SG} {t : MB} {f : ME} {ρ0 : Rho} (enc : α → D) (h : α → D) {l : List α} (hl : l.length ≤ 16777216)
    (step : ∀ x ∈ l, ∃ ρ1 ρ2 rv ρ3, g (enc x) ρ0 = some ρ1 ∧ t ρ1 = some (true, ρ2) ∧ f ρ2 = some (rv, ρ3) ∧ rv.d = h x ∧ wipeR ρ3 vs = ρ0) :
    lcL vs g t f (l.map enc) ρ0 [] = some (l.map h, ρ0) := by
  have := lcL_fil2 (vs := vs) (g := g) (t := t) (f := f) (ρ0 := ρ0) enc (fun _ => true) h hl fun x hx => by
    obtain ⟨ρ1, ρ2, rv, ρ3, h1, h2, h3, h4, h5⟩ := step x hx
    exact ⟨ρ1, ρ2, h1, h2, by rw [if_pos rfl]; exact ⟨rv, ρ3, h3, h4, h5⟩⟩
  rw [this, List.filter_eq_self.mpr fun _ _ => rfl]
theorem allB {α : Type} (p : α → Bool) (l : List α) : allD [.list (l.map fun x => .bool (p x))] = some (.v (.bool (l.all p))) := by
  rw [x_all (boolsOf_mp p l), List.all_map]; rfl
theorem anyB {α : Type} (p : α → Bool) (l : List α) : anyD [.list (l.map fun x => .bool (p x))] = some (.v (.bool (l.any p))) := by
  show (boolsOf _).map (fun bs => RV.v (.bool (bs.any id))) = _
  rw [boolsOf_mp p l, Option.map_some, List.any_map]; rfl
theorem in_abc (c : Nat) : inD (.str ⟨#[c]⟩) (.str abc) = some (.v (.bool (signIn c abc))) := rfl
theorem len_str {s : Str} (h : s.length ≤ 4000) : lenD [.str s] = some (.v (.int s.length)) := by
  show (if szb s.length then some (RV.v (.int s.length)) else none) = _
  rw [show szb s.length = true from decide_eq_true (by omega)]; rfl
def nameB : D → Bool
  | .str s => nameS s
  | _ => false
theorem name_any {v : D} (h : Fine v) : F_is_name.run [v] = some (.v (.bool (nameB v)), []) := by
  rw [u_is_name, x_run _ _ _ _ rfl, b_is_name]
  cases v with
  | str s =>
    have hs := fine_str.mp h
    have e1 := len_str hs
    have sl : s.cps.toList.length = s.length := by rw [Array.length_toList]; rfl
    have lc : lcL [1] (gN [] 1) bYes q_is_name_1 (signs s) [some (.v (.str s)), none] [] = some (s.cps.toList.map (fun c => .bool (signIn c abc)), [some (.v (.str s)), none]) := by
      refine lcL_enc (fun c => .str ⟨#[c]⟩) (fun c => .bool (signIn c abc)) (by omega) fun c hc => ?_
      have e := in_abc c
      exact ⟨[some (.v (.str s)), some (.v (.str ⟨#[c]⟩))], _, .v (.bool (signIn c abc)), [some (.v (.str s)), some (.v (.str ⟨#[c]⟩))], rfl, rfl, by (first | (simp (implicitDefEqProofs := false) [q_is_name_1, e]; done) | simp [q_is_name_1, e]), rfl, rfl⟩
    have al := allB (fun c => signIn c abc) s.cps.toList
    have nb : nameB (.str s) = (decide (1 ≤ s.length) && decide (s.length ≤ 8) && s.cps.toList.all fun c => signIn c abc) := rfl
    rw [nb]
    generalize s.cps.toList.map (fun c => PyData.bool (signIn c abc)) = A at lc al
    generalize (s.cps.toList.all fun c => signIn c abc) = q at al
    by_cases c1 : 1 ≤ s.length
    · have c1' : (1 : Int) ≤ (s.length : Int) := by omega
      by_cases c2 : s.length ≤ 8
      · have c2' : (s.length : Int) ≤ 8 := by omega
        (first | (simp (implicitDefEqProofs := false) [e1, lc, al, c1, c1', c2, c2']; done) | simp [e1, lc, al, c1, c1', c2, c2'])
      · have c2' : ¬ (s.length : Int) ≤ 8 := by omega
        (first | (simp (implicitDefEqProofs := false) [e1, c1, c1', c2, c2']; done) | simp [e1, c1, c1', c2, c2'])
    · have c1' : ¬ (1 : Int) ≤ (s.length : Int) := by omega
      (first | (simp (implicitDefEqProofs := false) [e1, c1, c1']; done) | simp [e1, c1, c1'])
  | _ => (first | (simp (implicitDefEqProofs := false) [nameB]; done) | simp [nameB])
/-! ## hosts -/
def tupB (v : D) (lo hi : Int) : Bool := match v with
  | .tuple ds => decide (lo ≤ (ds.length : Int)) && decide ((ds.length : Int) ≤ hi)
  | _ => false
theorem upto_run (v : D) (lo hi : Int) : F_is_tuple_up_to.run [v, .int lo, .int hi] = some (.v (.bool (tupB v lo hi)), []) := by
  rw [u_is_tuple_up_to, x_run _ _ _ _ rfl, b_is_tuple_up_to]
  cases v with
  | tuple ds => by_cases h1 : lo ≤ (ds.length : Int) <;> by_cases h2 : (ds.length : Int) ≤ hi <;> (first | (simp (implicitDefEqProofs := false) [tupB, h1, h2]; done) | simp [tupB, h1, h2])
  | _ => (first | (simp (implicitDefEqProofs := false) [tupB]; done) | simp [tupB])
theorem tupof_run (v : D) (n : Int) : F_is_tuple_of.run [v, .int n] = some (.v (.bool (tupB v n n)), []) := by
  rw [u_is_tuple_of, x_run _ _ _ _ rfl, b_is_tuple_of]
  (first | (simp (implicitDefEqProofs := false) [upto_run]; done) | simp [upto_run])
theorem pair_run (v : D) : F_is_pair.run [v] = some (.v (.bool (tupB v 2 2)), []) := by
  rw [u_is_pair, x_run _ _ _ _ rfl, b_is_pair]
  (first | (simp (implicitDefEqProofs := false) [tupof_run]; done) | simp [tupof_run])
theorem tup_len {v : D} {n : Nat} (h : tupB v n n = true) : ∃ ds, v = .tuple ds ∧ ds.length = n := by
  unfold tupB at h
  split at h
  · rename_i ds
    rw [Bool.and_eq_true, decide_eq_true_eq, decide_eq_true_eq] at h
    exact ⟨ds, rfl, by omega⟩
  · cases h
theorem tup_of {ds : List D} {n : Nat} (h : ds.length = n) : tupB (.tuple ds) n n = true := by
  subst h
  (first | (simp (implicitDefEqProofs := false) [tupB]; done) | simp [tupB])
theorem two {ds : List D} (h : ds.length = 2) : ∃ a b, ds = [a, b] := match ds, h with
  | [a, b], _ => ⟨a, b, rfl⟩
/-- every value is a pair or is none -/
theorem pair_or (v : D) : (∃ a b, v = .tuple [a, b] ∧ tupB v 2 2 = true) ∨ tupB v 2 2 = false := by
  cases h : tupB v 2 2 with
  | false => exact .inr rfl
  | true =>
    obtain ⟨ds, rfl, hl⟩ := tup_len (n := 2) h
    obtain ⟨a, b, rfl⟩ := two hl
    exact .inl ⟨a, b, rfl, rfl⟩
theorem lpair_or (v : D) : (∃ a b, v = .tuple [a, b]) ∨ (isiD ["tuple"] v = false ∧ ∀ a b, v ≠ .tuple [a, b]) ∨ (∃ ds, v = .tuple ds ∧ ds.length ≠ 2 ∧ ∀ a b, v ≠ .tuple [a, b]) := by
  cases v with
  | tuple ds =>
    by_cases h : ds.length = 2
    · obtain ⟨a, b, rfl⟩ := two h
      exact .inl ⟨a, b, rfl⟩
    · exact .inr (.inr ⟨ds, rfl, h, fun a b e => h (by cases e; rfl)⟩)
  | _ => exact .inr (.inl ⟨rfl, fun a b e => by cases e⟩)
def outB : D → Bool
  | .str s => decide (s = "")
  | _ => false
def hostB : D → Bool
  | .tuple [a, b] => nameB a && (outB b || nameB b)
  | _ => false
theorem hostB_no {v : D} (h : ∀ a b, v ≠ .tuple [a, b]) : hostB v = false := by
  unfold hostB
  split
  · exact absurd rfl (h _ _)
  · rfl
theorem no_pair {v : D} (h : tupB v 2 2 = false) : ∀ a b, v ≠ .tuple [a, b] := fun a b e => by subst e; cases h
theorem text_any (v : D) : F_is_text.run [v] = some (.v (.bool (isiD ["str"] v)), []) := by
  rw [u_is_text, x_run _ _ _ _ rfl, b_is_text]
  simp
theorem host_any {v : D} (h : Fine v) : F_is_host.run [v] = some (.v (.bool (hostB v)), []) := by
  have e1 := pair_run v
  rw [u_is_host, x_run _ _ _ _ rfl, b_is_host]
  rcases pair_or v with ⟨a, b, rfl, ht⟩ | ht
  · rw [ht] at e1
    have fa := fine_tup.mp h a (by simp)
    have fb := fine_tup.mp h b (by simp)
    have na := name_any fa
    have nb := name_any fb
    have tb := text_any b
    have hb : hostB (.tuple [a, b]) = (nameB a && (outB b || nameB b)) := rfl
    rw [hb]
    cases q : nameB a with
    | false => rw [q] at na; (first | (simp (implicitDefEqProofs := false) [e1, na]; done) | simp [e1, na])
    | true =>
      rw [q] at na
      cases b with
      | str s =>
        have eo : outB (.str s) = decide (s = "") := rfl
        have nn : nameB (.str s) = nameS s := rfl
        rw [nn] at nb
        rw [eo, nn]
        by_cases c : s = ""
        · subst c; (first | (simp (implicitDefEqProofs := false) [e1, na, tb]; done) | simp [e1, na, tb])
        · (first | (simp (implicitDefEqProofs := false) [e1, na, tb, c, nb]; done) | simp [e1, na, tb, c, nb])
      | _ => (first | (simp (implicitDefEqProofs := false) [e1, na, tb, outB, nameB]; done) | simp [e1, na, tb, outB, nameB])
  · rw [ht] at e1
    rw [hostB_no (no_pair ht)]
    (first | (simp (implicitDefEqProofs := false) [e1]; done) | simp [e1])
def underOut : D → Bool
  | .tuple [_, b] => outB b
  | _ => false
def innerB (v : D) : Bool := hostB v && !underOut v
theorem host_get {v : D} (h : hostB v = true) : ∃ p : Host, v = hostD p ∧ HostOk p := by
  unfold hostB at h
  split at h
  · rename_i a b
    rw [Bool.and_eq_true, Bool.or_eq_true] at h
    obtain ⟨h1, h2⟩ := h
    cases a with
    | str x =>
      cases b with
      | str y => exact ⟨(x, y), rfl, h1, h2.imp (fun h => of_decide_eq_true h) id⟩
      | _ => rcases h2 with h2 | h2 <;> cases h2
    | _ => cases h1
  · cases h
theorem hostB_of {p : Host} (h : HostOk p) : hostB (hostD p) = true := by
  obtain ⟨x, y⟩ := p
  show (nameS x && (decide (y = "") || nameS y)) = true
  obtain ⟨h1, h2⟩ := h
  rw [Bool.and_eq_true, Bool.or_eq_true]
  exact ⟨h1, h2.imp (fun h => decide_eq_true h) id⟩
theorem out_host (p : Host) : underOut (hostD p) = decide (p.2 = "") := rfl
theorem inner_any {v : D} (h : Fine v) : F_is_inner_host.run [v] = some (.v (.bool (innerB v)), []) := by
  have e := host_any h
  rw [u_is_inner_host, x_run _ _ _ _ rfl, b_is_inner_host]
  unfold innerB
  cases q : hostB v with
  | false => rw [q] at e; (first | (simp (implicitDefEqProofs := false) [e]; done) | simp [e])
  | true =>
    obtain ⟨⟨x, y⟩, rfl, _⟩ := host_get q
    rw [q] at e
    rw [out_host]
    have hd : hostD (x, y) = .tuple [.str x, .str y] := rfl
    rw [hd] at e ⊢
    (first | (simp (implicitDefEqProofs := false) [e]; done) | simp [e])
end K72
namespace K72
open PySem PySem.Spec L2 Z
open PyProof.Rows hiding St

/-! ## rows of hosts -/
def deH : D → Host
  | .tuple [.str a, .str b] => (a, b)
  | _ => ("", "")
theorem deH_of (p : Host) : deH (hostD p) = p := rfl
theorem hosts_get {ds : List D} (h : ds.all hostB = true) : ds = (ds.map deH).map hostD ∧ ∀ p ∈ ds.map deH, HostOk p := by
  rw [List.all_eq_true] at h
  constructor
  · rw [List.map_map]
    refine (List.map_id' _).symm.trans (List.map_congr_left fun d hd => ?_)
    obtain ⟨p, rfl, _⟩ := host_get (h d hd)
    rfl
  · intro p hp
    obtain ⟨d, hd, rfl⟩ := List.mem_map.mp hp
    obtain ⟨q, rfl, k⟩ := host_get (h d hd)
    exact k
theorem zip_map {α β : Type} (f : α → D) (g : β → D) : ∀ (l : List α) (k : List β), zipD (l.map f) (k.map g) = (l.zip k).map fun pq => .tuple [f pq.1, g pq.2]
  | [], _ => by rw [List.map_nil]; rfl
  | _ :: _, [] => by rw [List.map_nil, List.map_cons]; rfl
  | x :: l, y :: k => by rw [List.map_cons, List.map_cons, zipD, zip_map f g l k]; rfl
def riseH (ps : List Host) : Bool := (ps.zip (ps.drop 1)).all fun pq => hlt pq.1 pq.2
def riseS (ns : List Str) : Bool := (ns.zip (ns.drop 1)).all fun pq => slt pq.1 pq.2
def unlikeH (ps : List Host) : Bool := ps.zipIdx.all fun q => decide (q.1 ∉ ps.take q.2)
theorem cut_one (l : List D) : cut l (some 1) none = l.drop 1 := cut_drop l 1
theorem rise_lcH {ps : List Host} (hp : ps.length ≤ 4000) (o0 : Option RV) : ∃ A, lcL [1, 2] (gTn 2 (gCons (gN [] 1) (gCons (gN [] 2) gNil))) bYes q_are_rising_1 (zipD (ps.map hostD) ((ps.drop 1).map hostD)) [o0, none, none] [] = some (A, [o0, none, none]) ∧ allD [.list A] = some (.v (.bool (riseH ps))) := by
  refine ⟨_, ?_, allB (fun pq : Host × Host => hlt pq.1 pq.2) (ps.zip (ps.drop 1))⟩
  rw [zip_map]
  refine lcL_enc (fun pq : Host × Host => .tuple [hostD pq.1, hostD pq.2]) _ (by rw [List.length_zip]; omega) fun pq _ => ?_
  have e := lt_host pq.1 pq.2
  exact ⟨[o0, some (.v (hostD pq.1)), some (.v (hostD pq.2))], _, .v (.bool (hlt pq.1 pq.2)), [o0, some (.v (hostD pq.1)), some (.v (hostD pq.2))], rfl, rfl, by (first | (simp (implicitDefEqProofs := false) [q_are_rising_1, e]; done) | simp [q_are_rising_1, e]), rfl, rfl⟩
theorem rise_lcS {ns : List Str} (hp : ns.length ≤ 4000) (o0 : Option RV) : ∃ A, lcL [1, 2] (gTn 2 (gCons (gN [] 1) (gCons (gN [] 2) gNil))) bYes q_are_rising_1 (zipD (ns.map .str) ((ns.drop 1).map .str)) [o0, none, none] [] = some (A, [o0, none, none]) ∧ allD [.list A] = some (.v (.bool (riseS ns))) := by
  refine ⟨_, ?_, allB (fun pq : Str × Str => slt pq.1 pq.2) (ns.zip (ns.drop 1))⟩
  rw [zip_map]
  refine lcL_enc (fun pq : Str × Str => .tuple [.str pq.1, .str pq.2]) _ (by rw [List.length_zip]; omega) fun pq _ => ?_
  have e := lt_str pq.1 pq.2
  exact ⟨[o0, some (.v (.str pq.1)), some (.v (.str pq.2))], _, .v (.bool (slt pq.1 pq.2)), [o0, some (.v (.str pq.1)), some (.v (.str pq.2))], rfl, rfl, by (first | (simp (implicitDefEqProofs := false) [q_are_rising_1, e]; done) | simp [q_are_rising_1, e]), rfl, rfl⟩
theorem rising_host {ps : List Host} (hp : ps.length ≤ 4000) : F_are_rising.run [.tuple (ps.map hostD)] = some (.v (.bool (riseH ps)), []) := by
  obtain ⟨A, e1, e2⟩ := rise_lcH hp (some (.v (.tuple (ps.map hostD))))
  have e3 : slD (.tuple (ps.map hostD)) (some 1) none = some (.v (.tuple ((ps.drop 1).map hostD))) := by rw [x_slT, cut_one, List.map_drop]
  have e4 : zpD [.tuple (ps.map hostD), .tuple ((ps.drop 1).map hostD)] = some (zipD (ps.map hostD) ((ps.drop 1).map hostD)) := rfl
  rw [u_are_rising, x_run _ _ _ _ rfl, b_are_rising]
  generalize zipD (ps.map hostD) ((ps.drop 1).map hostD) = Z at e1 e4
  generalize (ps.drop 1).map hostD = P1 at e3 e4
  generalize ps.map hostD = P at e1 e3 e4
  (first | (simp (implicitDefEqProofs := false) [-x_slT, e1, e2, e3, e4]; done) | simp [-x_slT, e1, e2, e3, e4])
theorem rising_str {ns : List Str} (hp : ns.length ≤ 4000) : F_are_rising.run [.list (ns.map .str)] = some (.v (.bool (riseS ns)), []) := by
  obtain ⟨A, e1, e2⟩ := rise_lcS hp (some (.v (.list (ns.map .str))))
  have e3 : slD (.list (ns.map .str)) (some 1) none = some (.o (.list ((ns.drop 1).map .str))) := by rw [x_slL, cut_one, List.map_drop]
  have e4 : zpD [.list (ns.map .str), .list ((ns.drop 1).map .str)] = some (zipD (ns.map .str) ((ns.drop 1).map .str)) := rfl
  rw [u_are_rising, x_run _ _ _ _ rfl, b_are_rising]
  generalize zipD (ns.map PyData.str) ((ns.drop 1).map .str) = Z at e1 e4
  generalize (ns.drop 1).map PyData.str = P1 at e3 e4
  generalize ns.map PyData.str = P at e1 e3 e4
  (first | (simp (implicitDefEqProofs := false) [-x_slL, e1, e2, e3, e4]; done) | simp [-x_slL, e1, e2, e3, e4])
theorem enum_host (ps : List Host) : enumD (ps.map hostD) = ps.zipIdx.map fun q => .tuple [.int (q.2 : Int), hostD q.1] := by
  have gen : ∀ (l : List Host) (k : Nat), (l.map hostD).mapIdx (fun i d => PyData.tuple [.int ((k + i : Nat) : Int), d]) = (l.zipIdx k).map fun q => .tuple [.int (q.2 : Int), hostD q.1] := by
    intro l
    induction l with
    | nil => intro k; rfl
    | cons s l ih =>
      intro k
      rw [List.map_cons, List.mapIdx_cons, List.zipIdx_cons, List.map_cons, ← ih (k + 1)]
      congr 1
      congr 1
      funext i d
      rw [show k + (i + 1) = k + 1 + i by omega]
  have := gen ps 0
  rw [← this]
  unfold enumD
  congr 1
  funext i d
  rw [Nat.zero_add]
theorem cut_hosts (ps : List Host) (k : Nat) : slD (.tuple (ps.map hostD)) none (some (k : Int)) = some (.v (.tuple ((ps.take k).map hostD))) := by rw [x_slT, cut_take, List.map_take]
theorem unlike_host {ps : List Host} (hp : ps.length ≤ 4000) : F_are_unlike.run [.tuple (ps.map hostD)] = some (.v (.bool (unlikeH ps)), []) := by
  have lc : lcL [1, 2] (gTn 2 (gCons (gN [] 1) (gCons (gN [] 2) gNil))) bYes q_are_unlike_1 (enumD (ps.map hostD)) [some (.v (.tuple (ps.map hostD))), none, none] [] = some (ps.zipIdx.map (fun q => .bool (decide (q.1 ∉ ps.take q.2))), [some (.v (.tuple (ps.map hostD))), none, none]) := by
    rw [enum_host]
    refine lcL_enc (fun q : Host × Nat => .tuple [.int (q.2 : Int), hostD q.1]) (fun q : Host × Nat => .bool (decide (q.1 ∉ ps.take q.2))) (by rw [List.length_zipIdx]; omega) fun q hq => ?_
    have e1 := cut_hosts ps q.2
    have e2 := in_hostT q.1 (ps.take q.2)
    refine ⟨[some (.v (.tuple (ps.map hostD))), some (.v (.int (q.2 : Int))), some (.v (hostD q.1))], _, .v (.bool (decide (q.1 ∉ ps.take q.2))), [some (.v (.tuple (ps.map hostD))), some (.v (.int (q.2 : Int))), some (.v (hostD q.1))], rfl, rfl, ?_, rfl, rfl⟩
    generalize (ps.take q.2).map hostD = P1 at e1 e2
    generalize ps.map hostD = P at e1
    by_cases c : q.1 ∈ ps.take q.2
    · simp only [decide_eq_true c, c, not_true_eq_false, decide_false] at e2 ⊢
      (first | (simp (implicitDefEqProofs := false) [-x_slT, q_are_unlike_1, e1, e2]; done) | simp [-x_slT, q_are_unlike_1, e1, e2])
    · simp only [decide_eq_false c, c, not_false_eq_true, decide_true] at e2 ⊢
      (first | (simp (implicitDefEqProofs := false) [-x_slT, q_are_unlike_1, e1, e2]; done) | simp [-x_slT, q_are_unlike_1, e1, e2])
  have al := allB (fun q : Host × Nat => decide (q.1 ∉ ps.take q.2)) ps.zipIdx
  have en : enuD [.tuple (ps.map hostD)] = some (enumD (ps.map hostD)) := rfl
  rw [u_are_unlike, x_run _ _ _ _ rfl, b_are_unlike]
  unfold unlikeH
  generalize ps.zipIdx.map (fun q => PyData.bool (decide (q.1 ∉ ps.take q.2))) = A at lc al
  generalize (ps.zipIdx.all fun q => decide (q.1 ∉ ps.take q.2)) = r at al
  generalize enumD (ps.map hostD) = E at lc en
  generalize ps.map hostD = P at lc en
  (first | (simp (implicitDefEqProofs := false) [lc, al, en]; done) | simp [lc, al, en])
/-! ## glue, entries, books of anything -/
def hostsB : D → Bool
  | .tuple ds => decide (ds.length ≤ 4) && (ds.all hostB && unlikeH (ds.map deH))
  | _ => false
def glueB : D → Bool
  | .tuple ds => decide (ds.length ≤ 12) && (ds.all innerB && riseH (ds.map deH))
  | _ => false
def entryB : D → Bool
  | .tuple [a, b] => nameB a && hostsB b
  | _ => false
def deN : D → Str
  | .tuple (.str a :: _) => a
  | _ => ""
def bookB : D → Bool
  | .tuple [.tuple es, g] => decide (es.length ≤ 8) && (glueB g && (es.all entryB && riseS (es.map deN)))
  | _ => false
theorem bookB_no {v : D} (h : ∀ a b, v ≠ .tuple [a, b]) : bookB v = false := by
  unfold bookB
  split
  · exact absurd rfl (h _ _)
  · rfl
theorem entryB_no {v : D} (h : ∀ a b, v ≠ .tuple [a, b]) : entryB v = false := by
  unfold entryB
  split
  · exact absurd rfl (h _ _)
  · rfl
theorem lcD {vs : List Nat} {g : SG} {t : MB} {f : ME} {ρ0 : Rho} (p : D → Bool) {ds : List D} (hl : ds.length ≤ 4000) (step : ∀ d ∈ ds, ∃ ρ1 ρ2 ρ3, g d ρ0 = some ρ1 ∧ t ρ1 = some (true, ρ2) ∧ f ρ2 = some (.v (.bool (p d)), ρ3) ∧ wipeR ρ3 vs = ρ0) :
    ∃ A, lcL vs g t f ds ρ0 [] = some (A, ρ0) ∧ allD [.list A] = some (.v (.bool (ds.all p))) :=
  ⟨_, lcL_map (fun d => .bool (p d)) (by omega) fun d hd => by
    obtain ⟨ρ1, ρ2, ρ3, h1, h2, h3, h4⟩ := step d hd
    exact ⟨ρ1, ρ2, _, ρ3, h1, h2, h3, rfl, h4⟩, allB p ds⟩
theorem hosts_any {v : D} (h : Fine v) : F_are_hosts.run [v, .int 4] = some (.v (.bool (hostsB v)), []) := by
  have e1 := upto_run v 0 4
  rw [u_are_hosts, x_run _ _ _ _ rfl, b_are_hosts]
  cases v with
  | tuple ds =>
    have hd := fine_tup.mp h
    by_cases hl : ds.length ≤ 4
    · have e1' : tupB (.tuple ds) 0 4 = true := by
        show (decide ((0 : Int) ≤ (ds.length : Int)) && decide ((ds.length : Int) ≤ 4)) = true
        rw [decide_eq_true (by omega), decide_eq_true (by omega)]; rfl
      rw [e1'] at e1
      obtain ⟨A, lc, al⟩ := lcD (vs := [2]) (g := gN [] 2) (t := bYes) (f := q_are_hosts_1) (ρ0 := [some (.v (.tuple ds)), some (.v (.int 4)), none]) hostB (ds := ds) (by omega) fun d hdd => by
        have e := host_any (hd d hdd)
        exact ⟨[some (.v (.tuple ds)), some (.v (.int 4)), some (.v d)], _, [some (.v (.tuple ds)), some (.v (.int 4)), some (.v d)], rfl, rfl, by (first | (simp (implicitDefEqProofs := false) [q_are_hosts_1, e]; done) | simp [q_are_hosts_1, e]), rfl⟩
      have hb : hostsB (.tuple ds) = (ds.all hostB && unlikeH (ds.map deH)) := by
        show (decide (ds.length ≤ 4) && (ds.all hostB && unlikeH (ds.map deH))) = _
        rw [decide_eq_true hl, Bool.true_and]
      rw [hb]
      cases q : ds.all hostB with
      | false => rw [q] at al; (first | (simp (implicitDefEqProofs := false) [e1, lc, al]; done) | simp [e1, lc, al])
      | true =>
        rw [q] at al
        obtain ⟨g1, _⟩ := hosts_get q
        have eu := unlike_host (ps := ds.map deH) (by rw [List.length_map]; omega)
        rw [← g1] at eu
        (first | (simp (implicitDefEqProofs := false) [e1, lc, al, eu]; done) | simp [e1, lc, al, eu])
    · have e1' : tupB (.tuple ds) 0 4 = false := by
        show (decide ((0 : Int) ≤ (ds.length : Int)) && decide ((ds.length : Int) ≤ 4)) = false
        rw [decide_eq_false (show ¬ (ds.length : Int) ≤ 4 by omega), Bool.and_false]
      rw [e1'] at e1
      have hb : hostsB (.tuple ds) = false := by
        show (decide (ds.length ≤ 4) && _) = false
        rw [decide_eq_false hl, Bool.false_and]
      rw [hb]
      (first | (simp (implicitDefEqProofs := false) [e1]; done) | simp [e1])
  | _ =>
    have e1' := e1
    simp [tupB] at e1
    (first | (simp (implicitDefEqProofs := false) [e1, hostsB]; done) | simp [e1, hostsB])
theorem inner_all {ds : List D} (h : ds.all innerB = true) : ds.all hostB = true := by
  rw [List.all_eq_true] at h ⊢
  intro d hd
  have := h d hd
  unfold innerB at this
  rw [Bool.and_eq_true] at this
  exact this.1
theorem glue_any {v : D} (h : Fine v) : F_is_glue.run [v] = some (.v (.bool (glueB v)), []) := by
  have e1 := upto_run v 0 12
  rw [u_is_glue, x_run _ _ _ _ rfl, b_is_glue]
  cases v with
  | tuple ds =>
    have hd := fine_tup.mp h
    by_cases hl : ds.length ≤ 12
    · have e1' : tupB (.tuple ds) 0 12 = true := by
        show (decide ((0 : Int) ≤ (ds.length : Int)) && decide ((ds.length : Int) ≤ 12)) = true
        rw [decide_eq_true (by omega), decide_eq_true (by omega)]; rfl
      rw [e1'] at e1
      obtain ⟨A, lc, al⟩ := lcD (vs := [1]) (g := gN [] 1) (t := bYes) (f := q_is_glue_1) (ρ0 := [some (.v (.tuple ds)), none]) innerB (ds := ds) (by omega) fun d hdd => by
        have e := inner_any (hd d hdd)
        exact ⟨[some (.v (.tuple ds)), some (.v d)], _, [some (.v (.tuple ds)), some (.v d)], rfl, rfl, by (first | (simp (implicitDefEqProofs := false) [q_is_glue_1, e]; done) | simp [q_is_glue_1, e]), rfl⟩
      have hb : glueB (.tuple ds) = (ds.all innerB && riseH (ds.map deH)) := by
        show (decide (ds.length ≤ 12) && (ds.all innerB && riseH (ds.map deH))) = _
        rw [decide_eq_true hl, Bool.true_and]
      rw [hb]
      cases q : ds.all innerB with
      | false => rw [q] at al; (first | (simp (implicitDefEqProofs := false) [e1, lc, al]; done) | simp [e1, lc, al])
      | true =>
        rw [q] at al
        obtain ⟨g1, _⟩ := hosts_get (inner_all q)
        have eu := rising_host (ps := ds.map deH) (by rw [List.length_map]; omega)
        rw [← g1] at eu
        (first | (simp (implicitDefEqProofs := false) [e1, lc, al, eu]; done) | simp [e1, lc, al, eu])
    · have e1' : tupB (.tuple ds) 0 12 = false := by
        show (decide ((0 : Int) ≤ (ds.length : Int)) && decide ((ds.length : Int) ≤ 12)) = false
        rw [decide_eq_false (show ¬ (ds.length : Int) ≤ 12 by omega), Bool.and_false]
      rw [e1'] at e1
      have hb : glueB (.tuple ds) = false := by
        show (decide (ds.length ≤ 12) && _) = false
        rw [decide_eq_false hl, Bool.false_and]
      rw [hb]
      (first | (simp (implicitDefEqProofs := false) [e1]; done) | simp [e1])
  | _ =>
    simp [tupB] at e1
    (first | (simp (implicitDefEqProofs := false) [e1, glueB]; done) | simp [e1, glueB])
theorem entry_any {v : D} (h : Fine v) : F_is_entry.run [v] = some (.v (.bool (entryB v)), []) := by
  have e1 := pair_run v
  rw [u_is_entry, x_run _ _ _ _ rfl, b_is_entry]
  rcases pair_or v with ⟨a, b, rfl, ht⟩ | ht
  · rw [ht] at e1
    have na := name_any (fine_tup.mp h a (by simp))
    have nb := hosts_any (fine_tup.mp h b (by simp))
    have hb : entryB (.tuple [a, b]) = (nameB a && hostsB b) := rfl
    rw [hb]
    cases q : nameB a with
    | false => rw [q] at na; (first | (simp (implicitDefEqProofs := false) [e1, na]; done) | simp [e1, na])
    | true => rw [q] at na; (first | (simp (implicitDefEqProofs := false) [e1, na, nb]; done) | simp [e1, na, nb])
  · rw [ht] at e1
    rw [entryB_no (no_pair ht)]
    (first | (simp (implicitDefEqProofs := false) [e1]; done) | simp [e1])
theorem entry_get {v : D} (h : entryB v = true) : ∃ e : Ent, v = entD e ∧ nameS e.1 = true ∧ e.2.length ≤ 4 ∧ (∀ p ∈ e.2, HostOk p) ∧ unlikeH e.2 = true := by
  unfold entryB at h
  split at h
  · rename_i a b
    rw [Bool.and_eq_true] at h
    obtain ⟨h1, h2⟩ := h
    cases a with
    | str x =>
      cases b with
      | tuple ds =>
        have h2 : (decide (ds.length ≤ 4) && (ds.all hostB && unlikeH (ds.map deH))) = true := h2
        rw [Bool.and_eq_true, Bool.and_eq_true, decide_eq_true_eq] at h2
        obtain ⟨g1, g2⟩ := hosts_get h2.2.1
        refine ⟨(x, ds.map deH), ?_, h1, by show (ds.map deH).length ≤ 4; rw [List.length_map]; exact h2.1, g2, h2.2.2⟩
        unfold entD
        rw [← g1]
      | _ => cases h2
    | _ => cases h1
  · cases h
theorem entries_names {es : List D} (h : es.all entryB = true) : ∃ l : List Ent, es = l.map entD ∧ es.map deN = l.map (·.1) := by
  induction es with
  | nil => exact ⟨[], rfl, rfl⟩
  | cons e es ih =>
    rw [List.all_cons, Bool.and_eq_true] at h
    obtain ⟨l, h1, h2⟩ := ih h.2
    obtain ⟨x, rfl, _⟩ := entry_get h.1
    exact ⟨x :: l, by rw [List.map_cons, ← h1], by rw [List.map_cons, List.map_cons, h2]; rfl⟩
end K72
namespace K72
open PySem PySem.Spec L2 Z
open PyProof.Rows hiding St

/-! ## rows, versions, changes -/
theorem eqv_tup (xs ys : List D) : PyData.eqv (.tuple xs) (.tuple ys) = PyData.eqvAll xs ys := by simp only [PyData.eqv]
theorem eqvAll_hosts : ∀ l k : List Host, PyData.eqvAll (l.map hostD) (k.map hostD) = decide (l = k)
  | [], [] => by (first | (simp (implicitDefEqProofs := false) [PyData.eqvAll]; done) | simp [PyData.eqvAll])
  | [], _ :: _ => by (first | (simp (implicitDefEqProofs := false) [PyData.eqvAll]; done) | simp [PyData.eqvAll])
  | _ :: _, [] => by (first | (simp (implicitDefEqProofs := false) [PyData.eqvAll]; done) | simp [PyData.eqvAll])
  | p :: l, q :: k => by
    rw [List.map_cons, List.map_cons, PyData.eqvAll, eqv_host, eqvAll_hosts l k]
    by_cases h1 : p = q <;> by_cases h2 : l = k <;> (first | (simp (implicitDefEqProofs := false) [h1, h2]; done) | simp [h1, h2])
theorem eqv_ent (p q : Ent) : PyData.eqv (entD p) (entD q) = decide (p = q) := by
  obtain ⟨a, b⟩ := p
  obtain ⟨c, d⟩ := q
  have e : PyData.eqv (entD (a, b)) (entD (c, d)) = (PyData.eqv (.str a) (.str c) && (PyData.eqv (.tuple (b.map hostD)) (.tuple (d.map hostD)) && true)) := by
    unfold entD
    simp only [PyData.eqv, PyData.eqvAll]
  rw [e, x_eqvS, eqv_tup, eqvAll_hosts]
  by_cases h1 : a = c <;> by_cases h2 : b = d <;> (first | (simp (implicitDefEqProofs := false) [h1, h2]; done) | simp [h1, h2])
theorem any_ent (l : List Ent) (p : Ent) : ((l.map entD).any fun y => PyData.eqv y (entD p)) = decide (p ∈ l) := by
  induction l with
  | nil => simp
  | cons q l ih =>
    rw [List.map_cons, List.any_cons, ih, eqv_ent]
    by_cases h : q = p
    · (first | (simp (implicitDefEqProofs := false) [h]; done) | simp [h])
    · have h' : ¬ p = q := fun e => h e.symm
      (first | (simp (implicitDefEqProofs := false) [h, h']; done) | simp [h, h'])
theorem depth_host (l : List Host) : PyData.depthAll (l.map hostD) ≤ 1 := by
  induction l with
  | nil => exact Nat.zero_le _
  | cons p l ih =>
    rw [List.map_cons, PyData.depthAll]
    have : (hostD p).depth ≤ 1 := by unfold hostD; (first | (simp (implicitDefEqProofs := false) [PyData.depth, PyData.depthAll]; done) | simp [PyData.depth, PyData.depthAll])
    omega
theorem noD_ent (l : List Ent) : noDicts (l.map entD) = true := by
  induction l with
  | nil => rfl
  | cons q l ih =>
    rw [List.map_cons, noDicts, ih]
    unfold entD
    simp only [noDict, noDicts, noD_host]; rfl
theorem okE_ent (p : Ent) : okE (entD p) = true := by
  have h := depth_host p.2
  have h1 : (entD p).depth ≤ 3 := by unfold entD; simp only [PyData.depth, PyData.depthAll]; omega
  have h2 : noDict (entD p) = true := by unfold entD; simp only [noDict, noDicts, noD_host]; rfl
  unfold okE
  rw [h2, decide_eq_true (by omega)]; rfl
theorem in_entT (p : Ent) (l : List Ent) : inD (entD p) (.tuple (l.map entD)) = some (.v (.bool (decide (p ∈ l)))) := by
  rw [← any_ent]
  show (if okE (entD p) && noDicts (l.map entD) then bl _ else none) = _
  rw [okE_ent, noD_ent]; rfl
theorem enumG (ds : List D) : enumD ds = ds.zipIdx.map fun q => .tuple [.int (q.2 : Int), q.1] := by
  have gen : ∀ (l : List D) (k : Nat), l.mapIdx (fun i d => PyData.tuple [.int ((k + i : Nat) : Int), d]) = (l.zipIdx k).map fun q => .tuple [.int (q.2 : Int), q.1] := by
    intro l
    induction l with
    | nil => intro k; rfl
    | cons s l ih =>
      intro k
      rw [List.mapIdx_cons, List.zipIdx_cons, List.map_cons, ← ih (k + 1)]
      congr 1
      congr 1
      funext i d
      rw [show k + (i + 1) = k + 1 + i by omega]
  have := gen ds 0
  rw [← this]
  unfold enumD
  congr 1
  funext i d
  rw [Nat.zero_add]
def upB : D → Int → Bool
  | .int i, m => decide (0 ≤ i) && decide (i ≤ m)
  | _, _ => false
theorem number_any (v : D) : F_is_number.run [v] = some (.v (.bool (match v with | .int i => decide (0 ≤ i) | _ => false)), []) := by
  rw [u_is_number, x_run _ _ _ _ rfl, b_is_number]
  cases v <;> simp
theorem upto_any (v : D) (m : Int) : F_is_up_to.run [v, .int m] = some (.v (.bool (upB v m)), []) := by
  have e := number_any v
  rw [u_is_up_to, x_run _ _ _ _ rfl, b_is_up_to]
  cases v with
  | int i => by_cases h : 0 ≤ i <;> (first | (simp (implicitDefEqProofs := false) [e, upB, h]; done) | simp [e, upB, h])
  | _ => (first | (simp (implicitDefEqProofs := false) [e, upB]; done) | simp [e, upB])
def glueRowB : D → Bool
  | .tuple [a, b] => outB a && glueB b
  | _ => false
theorem glueRowB_no {v : D} (h : ∀ a b, v ≠ .tuple [a, b]) : glueRowB v = false := by
  unfold glueRowB
  split
  · exact absurd rfl (h _ _)
  · rfl
theorem gluerow_any {v : D} (h : Fine v) : F_is_glue_row.run [v] = some (.v (.bool (glueRowB v)), []) := by
  have e1 := pair_run v
  rw [u_is_glue_row, x_run _ _ _ _ rfl, b_is_glue_row]
  rcases pair_or v with ⟨a, b, rfl, ht⟩ | ht
  · rw [ht] at e1
    have nb := glue_any (fine_tup.mp h b (by simp))
    have hb : glueRowB (.tuple [a, b]) = (outB a && glueB b) := rfl
    rw [hb]
    cases a with
    | str s =>
      have eo : outB (.str s) = decide (s = "") := rfl
      rw [eo]
      by_cases c : s = ""
      · subst c; (first | (simp (implicitDefEqProofs := false) [e1, nb]; done) | simp [e1, nb])
      · (first | (simp (implicitDefEqProofs := false) [e1, c]; done) | simp [e1, c])
    | _ => (first | (simp (implicitDefEqProofs := false) [e1, outB]; done) | simp [e1, outB])
  · rw [ht] at e1
    rw [glueRowB_no (no_pair ht)]
    (first | (simp (implicitDefEqProofs := false) [e1]; done) | simp [e1])
theorem glue_get {v : D} (h : glueB v = true) : ∃ l : List Host, v = .tuple (l.map hostD) ∧ l.length ≤ 12 ∧ (∀ p ∈ l, HostOk p ∧ p.2 ≠ "") ∧ riseH l = true := by
  cases v with
  | tuple ds =>
    have h : (decide (ds.length ≤ 12) && (ds.all innerB && riseH (ds.map deH))) = true := h
    rw [Bool.and_eq_true, Bool.and_eq_true, decide_eq_true_eq] at h
    obtain ⟨g1, g2⟩ := hosts_get (inner_all h.2.1)
    refine ⟨ds.map deH, by rw [← g1], by rw [List.length_map]; exact h.1, fun p hp => ⟨g2 p hp, ?_⟩, h.2.2⟩
    obtain ⟨d, hd, rfl⟩ := List.mem_map.mp hp
    have hi := List.all_eq_true.mp h.2.1 d hd
    obtain ⟨q, rfl, _⟩ := host_get (List.all_eq_true.mp (inner_all h.2.1) d hd)
    unfold innerB at hi
    rw [Bool.and_eq_true, out_host] at hi
    intro e
    have e : q.2 = "" := e
    rw [e] at hi
    exact absurd hi.2 (by simp)
  | _ => cases h
theorem gluerow_get {v : D} (h : glueRowB v = true) : ∃ e : Ent, v = entD e ∧ e.1 = "" ∧ e.2.length ≤ 12 ∧ (∀ p ∈ e.2, HostOk p ∧ p.2 ≠ "") ∧ riseH e.2 = true := by
  unfold glueRowB at h
  split at h
  · rename_i a b
    rw [Bool.and_eq_true] at h
    obtain ⟨h1, h2⟩ := h
    obtain ⟨l, rfl, g⟩ := glue_get h2
    cases a with
    | str x =>
      have e : x = "" := of_decide_eq_true h1
      exact ⟨(x, l), rfl, e, g⟩
    | _ => cases h1
  · cases h
def rowAt (q : D × Nat) : Bool := entryB q.1 || (decide (q.2 = 0) && glueRowB q.1)
def rowsB : D → Bool
  | .tuple rs => decide (rs.length ≤ 9) && (rs.zipIdx.all rowAt && riseS (rs.map deN))
  | _ => false
theorem rowAt_get {q : D × Nat} (h : rowAt q = true) : ∃ e : Ent, q.1 = entD e := by
  unfold rowAt at h
  rw [Bool.or_eq_true, Bool.and_eq_true] at h
  rcases h with h | h
  · obtain ⟨e, he, _⟩ := entry_get h; exact ⟨e, he⟩
  · obtain ⟨e, he, _⟩ := gluerow_get h.2; exact ⟨e, he⟩
theorem rows_ents {rs : List D} (h : rs.zipIdx.all rowAt = true) : ∃ l : List Ent, rs = l.map entD := by
  have gen : ∀ (rs : List D) (k : Nat), (rs.zipIdx k).all rowAt = true → ∃ l : List Ent, rs = l.map entD := by
    intro rs
    induction rs with
    | nil => intro _ _; exact ⟨[], rfl⟩
    | cons r rs ih =>
      intro k h
      rw [List.zipIdx_cons, List.all_cons, Bool.and_eq_true] at h
      obtain ⟨e, he⟩ := rowAt_get h.1
      obtain ⟨l, hl⟩ := ih _ h.2
      exact ⟨e :: l, by rw [List.map_cons, ← hl, ← he]⟩
  exact gen rs 0 h
theorem deN_ent (e : Ent) : deN (entD e) = e.1 := rfl
theorem fine_zip {rs : List D} (h : FinL rs) : ∀ q ∈ rs.zipIdx, Fine q.1 := fun q hq => h q.1 (by
  obtain ⟨a, b⟩ := q
  exact (List.mem_zipIdx hq).2.2 ▸ List.getElem_mem _)
theorem rows_any {v : D} (h : Fine v) : F_are_rows.run [v] = some (.v (.bool (rowsB v)), []) := by
  have ea := upto_run v 0 9
  rw [u_are_rows, x_run _ _ _ _ rfl, b_are_rows]
  cases v with
  | tuple rs =>
    have hd := fine_tup.mp h
    by_cases hl : rs.length ≤ 9
    · have e1' : tupB (.tuple rs) 0 9 = true := by
        show (decide ((0 : Int) ≤ (rs.length : Int)) && decide ((rs.length : Int) ≤ 9)) = true
        rw [decide_eq_true (by omega), decide_eq_true (by omega)]; rfl
      rw [e1'] at ea
      have hb : rowsB (.tuple rs) = (rs.zipIdx.all rowAt && riseS (rs.map deN)) := by
        show (decide (rs.length ≤ 9) && _) = _
        rw [decide_eq_true hl, Bool.true_and]
      rw [hb]
      have lc : lcL [1, 2] (gTn 2 (gCons (gN [] 1) (gCons (gN [] 2) gNil))) bYes q_are_rows_2 (enumD rs) [some (.v (.tuple rs)), none, none] [] = some (rs.zipIdx.map (fun q => .bool (rowAt q)), [some (.v (.tuple rs)), none, none]) := by
        rw [enumG]
        refine lcL_enc (fun q : D × Nat => .tuple [.int (q.2 : Int), q.1]) (fun q => .bool (rowAt q)) (by rw [List.length_zipIdx]; omega) fun q hq => ?_
        have f1 := fine_zip hd q hq
        have n1 := entry_any f1
        have n2 := gluerow_any f1
        refine ⟨[some (.v (.tuple rs)), some (.v (.int (q.2 : Int))), some (.v q.1)], _, .v (.bool (rowAt q)), [some (.v (.tuple rs)), some (.v (.int (q.2 : Int))), some (.v q.1)], rfl, rfl, ?_, rfl, rfl⟩
        obtain ⟨r, k⟩ := q
        dsimp only at n1 n2 ⊢
        unfold rowAt
        dsimp only
        cases c1 : entryB r with
        | true => rw [c1] at n1; (first | (simp (implicitDefEqProofs := false) [q_are_rows_2, n1]; done) | simp [q_are_rows_2, n1])
        | false =>
          rw [c1] at n1
          by_cases c2 : k = 0
          · subst c2; (first | (simp (implicitDefEqProofs := false) [q_are_rows_2, n1, n2]; done) | simp [q_are_rows_2, n1, n2])
          · have c2' : ¬ (k : Int) = 0 := by omega
            (first | (simp (implicitDefEqProofs := false) [q_are_rows_2, n1, c2, c2']; done) | simp [q_are_rows_2, n1, c2, c2'])
      have al := allB rowAt rs.zipIdx
      have en : enuD [.tuple rs] = some (enumD rs) := rfl
      generalize rs.zipIdx.map (fun q => PyData.bool (rowAt q)) = A at lc al
      cases q2 : rs.zipIdx.all rowAt with
      | false => rw [q2] at al; generalize enumD rs = E at lc en; (first | (simp (implicitDefEqProofs := false) [ea, lc, al, en]; done) | simp [ea, lc, al, en])
      | true =>
        rw [q2] at al
        obtain ⟨l, g1⟩ := rows_ents q2
        have lc2 : lcL [2] (gN [] 2) bYes q_are_rows_1 rs [some (.v (.tuple rs)), none, none] [] = some ((rs.map deN).map .str, [some (.v (.tuple rs)), none, none]) := by
          rw [List.map_map]
          refine lcL_map (fun d => .str (deN d)) (by omega) fun d hdd => ?_
          rw [g1] at hdd
          obtain ⟨x, _, hx⟩ := List.mem_map.mp hdd
          have hx2 : d = .tuple [.str x.1, .tuple (x.2.map hostD)] := hx.symm
          exact ⟨[some (.v (.tuple rs)), none, some (.v d)], _, .v (.str (deN d)), [some (.v (.tuple rs)), none, some (.v d)], rfl, rfl, by rw [hx2]; (first | (simp (implicitDefEqProofs := false) [q_are_rows_1, deN]; done) | simp [q_are_rows_1, deN]), rfl, rfl⟩
        have er := rising_str (ns := rs.map deN) (by rw [List.length_map]; omega)
        generalize (rs.map deN).map PyData.str = S at lc2 er
        generalize enumD rs = E at lc en
        (first | (simp (implicitDefEqProofs := false) [ea, lc, al, en, lc2, er]; done) | simp [ea, lc, al, en, lc2, er])
    · have e1' : tupB (.tuple rs) 0 9 = false := by
        show (decide ((0 : Int) ≤ (rs.length : Int)) && decide ((rs.length : Int) ≤ 9)) = false
        rw [decide_eq_false (show ¬ (rs.length : Int) ≤ 9 by omega), Bool.and_false]
      rw [e1'] at ea
      have hb : rowsB (.tuple rs) = false := by
        show (decide (rs.length ≤ 9) && _) = false
        rw [decide_eq_false hl, Bool.false_and]
      rw [hb]
      (first | (simp (implicitDefEqProofs := false) [ea]; done) | simp [ea])
  | _ =>
    simp [tupB] at ea
    (first | (simp (implicitDefEqProofs := false) [ea, rowsB]; done) | simp [ea, rowsB])
def versB : D → Bool
  | .tuple [a, r] => upB a 999 && rowsB r
  | _ => false
theorem versB_no {v : D} (h : ∀ a b, v ≠ .tuple [a, b]) : versB v = false := by
  unfold versB
  split
  · exact absurd rfl (h _ _)
  · rfl
theorem version_any {v : D} (h : Fine v) : F_is_version_of.run [v] = some (.v (.bool (versB v)), []) := by
  have e1 := pair_run v
  rw [u_is_version_of, x_run _ _ _ _ rfl, b_is_version_of]
  rcases pair_or v with ⟨a, b, rfl, ht⟩ | ht
  · rw [ht] at e1
    have na := upto_any a 999
    have nb := rows_any (fine_tup.mp h b (by simp))
    have hb : versB (.tuple [a, b]) = (upB a 999 && rowsB b) := rfl
    rw [hb]
    cases q : upB a 999 <;> (first | (simp (implicitDefEqProofs := false) [e1, na, nb, q]; done) | simp [e1, na, nb, q])
  · rw [ht] at e1
    rw [versB_no (no_pair ht)]
    (first | (simp (implicitDefEqProofs := false) [e1]; done) | simp [e1])
end K72
namespace K72
open PySem PySem.Spec L2 Z
open PyProof.Rows hiding St

/-! ## the law's own look -/
theorem lname_any {v : D} (h : Fine v) : F_l_is_name.run [v] = some (.v (.bool (nameB v)), []) := by
  rw [u_l_is_name, x_run _ _ _ _ rfl, b_l_is_name]
  cases v with
  | str s =>
    have hs := fine_str.mp h
    have e1 := len_str hs
    have sl : s.cps.toList.length = s.length := by rw [Array.length_toList]; rfl
    have lc : lcL [2] (gN [] 2) bYes q_l_is_name_1 (signs s) [some (.v (.str s)), some (.v (.str abc)), none] [] = some (s.cps.toList.map (fun c => .bool (signIn c abc)), [some (.v (.str s)), some (.v (.str abc)), none]) := by
      refine lcL_enc (fun c => .str ⟨#[c]⟩) (fun c => .bool (signIn c abc)) (by omega) fun c hc => ?_
      have e := in_abc c
      exact ⟨[some (.v (.str s)), some (.v (.str abc)), some (.v (.str ⟨#[c]⟩))], _, .v (.bool (signIn c abc)), [some (.v (.str s)), some (.v (.str abc)), some (.v (.str ⟨#[c]⟩))], rfl, rfl, by (first | (simp (implicitDefEqProofs := false) [q_l_is_name_1, e]; done) | simp [q_l_is_name_1, e]), rfl, rfl⟩
    have al := allB (fun c => signIn c abc) s.cps.toList
    have nb : nameB (.str s) = (decide (1 ≤ s.length) && decide (s.length ≤ 8) && s.cps.toList.all fun c => signIn c abc) := rfl
    rw [nb]
    generalize s.cps.toList.map (fun c => PyData.bool (signIn c abc)) = A at lc al
    generalize (s.cps.toList.all fun c => signIn c abc) = q at al
    by_cases c1 : 1 ≤ s.length
    · have c1' : (0 : Int) < (s.length : Int) := by omega
      have c0 : 0 < s.length := c1
      by_cases c2 : s.length ≤ 8
      · have c2' : (s.length : Int) < 9 := by omega
        (first | (simp (implicitDefEqProofs := false) [e1, lc, al, c1, c0, c2, c2']; done) | simp [e1, lc, al, c1, c0, c2, c2'])
      · have c2' : ¬ (s.length : Int) < 9 := by omega
        (first | (simp (implicitDefEqProofs := false) [e1, c1, c0, c2, c2']; done) | simp [e1, c1, c0, c2, c2'])
    · have c0 : ¬ 0 < s.length := fun h => c1 h
      (first | (simp (implicitDefEqProofs := false) [e1, c1, c0]; done) | simp [e1, c1, c0])
  | _ => (first | (simp (implicitDefEqProofs := false) [nameB]; done) | simp [nameB])
def lhB (out : Bool) (v : D) : Bool := hostB v && (out || !underOut v)
theorem lhost_step {v : D} (h : Fine v) (o0 o2 : Option RV) (out : Bool) : q_l_are_hosts_1 [o0, some (.v (.bool out)), o2, some (.v v)] = some (if lhB out v then .nx else .rt (.v (.bool false)), [o0, some (.v (.bool out)), o2, some (.v v)]) := by
  rcases lpair_or v with ⟨a, b, rfl⟩ | ⟨ht, hn⟩ | ⟨ds, rfl, hl, hn⟩
  · have na := lname_any (fine_tup.mp h a (by simp))
    have nb := lname_any (fine_tup.mp h b (by simp))
    have hb : lhB out (.tuple [a, b]) = (nameB a && (outB b || nameB b) && (out || !outB b)) := rfl
    rw [hb]
    cases q : nameB a with
    | false => rw [q] at na; (first | (simp (implicitDefEqProofs := false) [q_l_are_hosts_1, na]; done) | simp [q_l_are_hosts_1, na])
    | true =>
      rw [q] at na
      cases q2 : nameB b with
      | true =>
        rw [q2] at nb
        have ob : outB b = false := by
          cases b with
          | str s =>
            have hs : nameS s = true := q2
            exact decide_eq_false (nameS_ne hs)
          | _ => rfl
        (first | (simp (implicitDefEqProofs := false) [q_l_are_hosts_1, na, nb, ob]; done) | simp [q_l_are_hosts_1, na, nb, ob])
      | false =>
        rw [q2] at nb
        cases out with
        | false => cases ob : outB b <;> (first | (simp (implicitDefEqProofs := false) [q_l_are_hosts_1, na, nb]; done) | simp [q_l_are_hosts_1, na, nb])
        | true =>
          cases b with
          | str s =>
            have eo : outB (.str s) = decide (s = "") := rfl
            rw [eo]
            by_cases c : s = ""
            · subst c; (first | (simp (implicitDefEqProofs := false) [q_l_are_hosts_1, na, nb]; done) | simp [q_l_are_hosts_1, na, nb])
            · (first | (simp (implicitDefEqProofs := false) [q_l_are_hosts_1, na, nb, c]; done) | simp [q_l_are_hosts_1, na, nb, c])
          | _ => (first | (simp (implicitDefEqProofs := false) [q_l_are_hosts_1, na, nb, outB]; done) | simp [q_l_are_hosts_1, na, nb, outB])
  · have hb : lhB out v = false := by unfold lhB; rw [hostB_no hn]; rfl
    rw [hb]
    (first | (simp (implicitDefEqProofs := false) [q_l_are_hosts_1, ht]; done) | simp [q_l_are_hosts_1, ht])
  · have hb : lhB out (.tuple ds) = false := by unfold lhB; rw [hostB_no hn]; rfl
    rw [hb]
    have hl' : ¬ ((ds.length : Int) = 2) := by omega
    (first | (simp (implicitDefEqProofs := false) [q_l_are_hosts_1, hl']; done) | simp [q_l_are_hosts_1, hl'])
theorem lhosts_loop (o0 o2 : Option RV) (out : Bool) : ∀ (ds : List D) (o3 : Option RV), FinL ds →
    (ds.all (lhB out) = true ∧ ∃ t3, forL (gN [] 3) q_l_are_hosts_1 ds [o0, some (.v (.bool out)), o2, o3] = some (.nx, [o0, some (.v (.bool out)), o2, t3])) ∨
    (ds.all (lhB out) = false ∧ ∃ ρ', forL (gN [] 3) q_l_are_hosts_1 ds [o0, some (.v (.bool out)), o2, o3] = some (.rt (.v (.bool false)), ρ'))
  | [], o3, _ => .inl ⟨rfl, o3, rfl⟩
  | d :: ds, o3, h => by
    have e := lhost_step (h d List.mem_cons_self) o0 o2 out
    have g : gN [] 3 d [o0, some (.v (.bool out)), o2, o3] = some [o0, some (.v (.bool out)), o2, some (.v d)] := rfl
    rw [List.all_cons]
    unfold forL
    rw [g, Option.bind_some, e]
    cases q : lhB out d with
    | false => exact .inr ⟨rfl, _, rfl⟩
    | true =>
      rw [Bool.true_and]
      exact lhosts_loop o0 o2 out ds (some (.v d)) fun x hx => h x (List.mem_cons_of_mem _ hx)
def lhsB (out : Bool) (m : Nat) : D → Bool
  | .tuple ds => decide (ds.length ≤ m) && ds.all (lhB out)
  | _ => false
theorem lhosts_any {v : D} (h : Fine v) (out : Bool) (m : Nat) : F_l_are_hosts.run [v, .bool out, .int (m : Int)] = some (.v (.bool (lhsB out m v)), []) := by
  rw [u_l_are_hosts, x_run _ _ _ _ rfl, b_l_are_hosts]
  cases v with
  | tuple ds =>
    have hb : lhsB out m (.tuple ds) = (decide (ds.length ≤ m) && ds.all (lhB out)) := rfl
    rw [hb]
    by_cases hl : ds.length ≤ m
    · have hl' : ¬ (m : Int) < (ds.length : Int) := by omega
      generalize (m : Int) = M at hl'
      rcases lhosts_loop (some (.v (.tuple ds))) (some (.v (.int M))) out ds none (fine_tup.mp h) with ⟨c, t3, e⟩ | ⟨c, ρ', e⟩
      · rw [c]; (first | (simp (implicitDefEqProofs := false) [hl, hl', e]; done) | simp [hl, hl', e])
      · rw [c]; (first | (simp (implicitDefEqProofs := false) [hl, hl', e]; done) | simp [hl, hl', e])
    · have hl' : (m : Int) < (ds.length : Int) := by omega
      generalize (m : Int) = M at hl'
      (first | (simp (implicitDefEqProofs := false) [hl, hl']; done) | simp [hl, hl'])
  | _ => (first | (simp (implicitDefEqProofs := false) [lhsB]; done) | simp [lhsB])
theorem lh_true (ds : List D) : ds.all (lhB true) = ds.all hostB := by
  congr 1
  funext v
  unfold lhB
  rw [Bool.true_or, Bool.and_true]
theorem lh_false (ds : List D) : ds.all (lhB false) = ds.all innerB := by
  congr 1
/-! ## orders by places -/
theorem zip_range {α : Type} (l : List α) (d : α) : l.zip (l.drop 1) = (List.range (l.length - 1)).map fun i => (l.getD i d, l.getD (i + 1) d) := by
  apply List.ext_getElem
  · simp
  · intro i h1 h2
    simp only [List.length_zip, List.length_drop] at h1
    simp only [List.getElem_zip, List.getElem_map, List.getElem_range, List.getElem_drop]
    rw [List.getD_eq_getElem?_getD, List.getD_eq_getElem?_getD, List.getElem?_eq_getElem (by omega), List.getElem?_eq_getElem (by omega)]
    simp only [Option.getD_some]
    congr 2
    omega
theorem zipIdx_range {α : Type} (l : List α) (d : α) : l.zipIdx = (List.range l.length).map fun i => (l.getD i d, i) := by
  apply List.ext_getElem
  · simp
  · intro i h1 h2
    simp only [List.length_zipIdx] at h1
    simp only [List.getElem_zipIdx, List.getElem_map, List.getElem_range]
    rw [List.getD_eq_getElem?_getD, List.getElem?_eq_getElem (by omega)]
    simp
theorem rise_range (l : List Host) : riseH l = (List.range (l.length - 1)).all fun i => hlt (l.getD i ("", "")) (l.getD (i + 1) ("", "")) := by
  unfold riseH
  rw [zip_range l ("", ""), List.all_map]; rfl
theorem unlike_range (l : List Host) : unlikeH l = (List.range l.length).all fun i => decide (l.getD i ("", "") ∉ l.take i) := by
  unfold unlikeH
  rw [zipIdx_range l ("", ""), List.all_map]; rfl
theorem at_host {l : List Host} {i : Nat} (h : i < l.length) : atI (l.map hostD) (i : Int) = some (hostD (l.getD i ("", ""))) := by
  rw [atI_of, List.getElem?_map, List.getElem?_eq_getElem h, List.getD_eq_getElem?_getD, List.getElem?_eq_getElem h]; rfl
theorem upTo_range (n : Nat) : Z.upTo 0 n = (List.range n).map fun i => .int (i : Int) := by
  unfold Z.upTo
  congr 1
  funext i
  rw [Int.zero_add]
theorem rise_lcL (o0 o1 : Option RV) (n : Str) {l : List Host} (hl : l.length ≤ 4000) : ∃ A, lcL [3] (gN [] 3) bYes q_l_are_rows_1 (Z.upTo 0 (l.length - 1)) [o0, o1, some (.v (.tuple [.str n, .tuple (l.map hostD)])), none] [] = some (A, [o0, o1, some (.v (.tuple [.str n, .tuple (l.map hostD)])), none]) ∧ allD [.list A] = some (.v (.bool (riseH l))) := by
  rw [rise_range, upTo_range]
  refine ⟨_, ?_, allB _ (List.range (l.length - 1))⟩
  refine lcL_enc (fun i : Nat => .int (i : Int)) _ (by rw [List.length_range]; omega) fun i hi => ?_
  have hi := List.mem_range.mp hi
  have e1 := at_host (l := l) (i := i) (by omega)
  have e2 : atI (l.map hostD) ((i : Int) + 1) = some (hostD (l.getD (i + 1) ("", ""))) := at_host (l := l) (i := i + 1) (by omega)
  have e3 := lt_host (l.getD i ("", "")) (l.getD (i + 1) ("", ""))
  refine ⟨[o0, o1, some (.v (.tuple [.str n, .tuple (l.map hostD)])), some (.v (.int (i : Int)))], _, .v (.bool (hlt (l.getD i ("", "")) (l.getD (i + 1) ("", "")))), [o0, o1, some (.v (.tuple [.str n, .tuple (l.map hostD)])), some (.v (.int (i : Int)))], rfl, rfl, ?_, rfl, rfl⟩
  generalize hlt (l.getD i ("", "")) (l.getD (i + 1) ("", "")) = b at e3
  generalize hostD (l.getD i ("", "")) = x at e1 e3
  generalize hostD (l.getD (i + 1) ("", "")) = y at e2 e3
  generalize l.map hostD = L at e1 e2
  generalize (i : Int) = I at e1 e2
  (first | (simp (implicitDefEqProofs := false) [q_l_are_rows_1, e1, e2, e3]; done) | simp [q_l_are_rows_1, e1, e2, e3])
theorem unlike_lcL (o0 o1 : Option RV) (n : Str) {l : List Host} (hl : l.length ≤ 4000) : ∃ A, lcL [3] (gN [] 3) bYes q_l_are_rows_2 (Z.upTo 0 l.length) [o0, o1, some (.v (.tuple [.str n, .tuple (l.map hostD)])), none] [] = some (A, [o0, o1, some (.v (.tuple [.str n, .tuple (l.map hostD)])), none]) ∧ allD [.list A] = some (.v (.bool (unlikeH l))) := by
  rw [unlike_range, upTo_range]
  refine ⟨_, ?_, allB _ (List.range l.length)⟩
  refine lcL_enc (fun i : Nat => .int (i : Int)) _ (by rw [List.length_range]; omega) fun i hi => ?_
  have hi := List.mem_range.mp hi
  have e1 := at_host (l := l) (i := i) (by omega)
  have e2 := cut_hosts l i
  have e3 := in_hostT (l.getD i ("", "")) (l.take i)
  refine ⟨[o0, o1, some (.v (.tuple [.str n, .tuple (l.map hostD)])), some (.v (.int (i : Int)))], _, .v (.bool (decide (l.getD i ("", "") ∉ l.take i))), [o0, o1, some (.v (.tuple [.str n, .tuple (l.map hostD)])), some (.v (.int (i : Int)))], rfl, rfl, ?_, rfl, rfl⟩
  rw [decide_not]
  generalize decide (l.getD i ("", "") ∈ l.take i) = b at e3
  generalize hostD (l.getD i ("", "")) = x at e1 e3
  generalize (l.take i).map hostD = T at e2 e3
  generalize l.map hostD = L at e1 e2
  generalize (i : Int) = I at e1 e2
  (first | (simp (implicitDefEqProofs := false) [-x_slT, q_l_are_rows_2, e1, e2, e3]; done) | simp [-x_slT, q_l_are_rows_2, e1, e2, e3])
end K72
namespace K72
open PySem PySem.Spec L2 Z
open PyProof.Rows hiding St

/-! ## rows by the law's own look -/
def lastD' : Option Str → Option RV
  | none => some (.v .none)
  | some l => some (.v (.str l))
def lstep (last : Option Str) (r : D) : Bool := (entryB r && last.all fun l => slt l (deN r)) || (glueRowB r && last.isNone)
theorem entry_pair (s : Str) (b : D) : entryB (.tuple [.str s, b]) = (nameS s && hostsB b) := rfl
theorem glue_pair (s : Str) (b : D) : glueRowB (.tuple [.str s, b]) = (decide (s = "") && glueB b) := rfl
theorem nameS_empty : nameS "" = false := by decide +kernel
theorem glueB_lhs (b : D) : glueB b = (lhsB false 12 b && match b with | .tuple ds => riseH (ds.map deH) | _ => false) := by
  cases b with
  | tuple ds =>
    show (decide (ds.length ≤ 12) && (ds.all innerB && riseH (ds.map deH))) = (decide (ds.length ≤ 12) && ds.all (lhB false) && riseH (ds.map deH))
    rw [lh_false, Bool.and_assoc]
  | _ => rfl
theorem hostsB_lhs (b : D) : hostsB b = (lhsB true 4 b && match b with | .tuple ds => unlikeH (ds.map deH) | _ => false) := by
  cases b with
  | tuple ds =>
    show (decide (ds.length ≤ 4) && (ds.all hostB && unlikeH (ds.map deH))) = (decide (ds.length ≤ 4) && ds.all (lhB true) && unlikeH (ds.map deH))
    rw [lh_true, Bool.and_assoc]
  | _ => rfl
theorem lhs_get {out : Bool} {m : Nat} {b : D} (h : lhsB out m b = true) : ∃ l : List Host, b = .tuple (l.map hostD) ∧ l.length ≤ m := by
  cases b with
  | tuple ds =>
    have h : (decide (ds.length ≤ m) && ds.all (lhB out)) = true := h
    rw [Bool.and_eq_true, decide_eq_true_eq] at h
    have h2 : ds.all hostB = true := by
      rw [List.all_eq_true] at h ⊢
      intro x hx
      have := h.2 x hx
      unfold lhB at this
      rw [Bool.and_eq_true] at this
      exact this.1
    obtain ⟨g1, _⟩ := hosts_get h2
    exact ⟨ds.map deH, by rw [← g1], by rw [List.length_map]; exact h.1⟩
  | _ => cases h
theorem map_deH (l : List Host) : (l.map hostD).map deH = l := by rw [List.map_map, show (deH ∘ hostD) = id from funext deH_of, List.map_id]
def goB : Bool → Out
  | true => .nx
  | false => .rt (.v (.bool false))
theorem exF {x : Option (Out × Rho)} {T : Rho → Prop} (h : ∃ ρ', x = some (goB false, ρ')) : ∃ ρ', x = some (goB false, ρ') ∧ (false = true → T ρ') := let ⟨ρ', e⟩ := h; ⟨ρ', e, fun q => by cases q⟩
theorem row_step {r : D} (h : Fine r) (o0 : Option RV) (last : Option Str) : ∃ ρ', q_l_are_rows_3 [o0, lastD' last, some (.v r), none] = some (goB (lstep last r), ρ') ∧ (lstep last r = true → ρ' = [o0, lastD' (some (deN r)), some (.v r), none]) := by
  have no : (∀ s b, r ≠ .tuple [.str s, b]) → lstep last r = false := fun hn => by
    have e1 : entryB r = false := by
      cases q : entryB r with
      | false => rfl
      | true => obtain ⟨e, rfl, _⟩ := entry_get q; exact absurd rfl (hn _ _)
    have e2 : glueRowB r = false := by
      cases q : glueRowB r with
      | false => rfl
      | true => obtain ⟨e, rfl, _⟩ := gluerow_get q; exact absurd rfl (hn _ _)
    unfold lstep
    rw [e1, e2]; rfl
  rcases lpair_or r with ⟨a, b, rfl⟩ | ⟨ht, hn⟩ | ⟨ds, rfl, hl, hn⟩
  · cases a with
    | str s =>
      have na := lname_any (fine_tup.mp h (.str s) (by simp))
      have nn : nameB (.str s) = nameS s := rfl
      rw [nn] at na
      have fb := fine_tup.mp h b (by simp)
      have hg := lhosts_any fb false 12
      have hh := lhosts_any fb true 4
      have ls : lstep last (.tuple [.str s, b]) = ((nameS s && hostsB b && last.all fun l => slt l s) || (decide (s = "") && glueB b && last.isNone)) := rfl
      have dn : deN (.tuple [.str s, b]) = s := rfl
      rw [ls, dn]
      by_cases c : s = ""
      · subst c
        rw [nameS_empty, decide_eq_true rfl, Bool.false_and, Bool.false_and, Bool.false_or, Bool.true_and]
        cases last with
        | some l =>
          rw [Option.isNone_some, Bool.and_false]
          refine ⟨[o0, some (.v (.str l)), some (.v (.tuple [.str "", b])), none], ?_, fun q => by cases q⟩
          (first | (simp (implicitDefEqProofs := false) [goB, q_l_are_rows_3, lastD', isN]; done) | simp [goB, q_l_are_rows_3, lastD', isN])
        | none =>
          rw [Option.isNone_none, Bool.and_true, glueB_lhs]
          cases q1 : lhsB false 12 b with
          | false =>
            rw [q1] at hg
            refine ⟨[o0, some (.v .none), some (.v (.tuple [.str "", b])), none], ?_, fun q => by cases q⟩
            have hg' : F_l_are_hosts.run [b, .bool false, .int 12] = some (.v (.bool false), []) := hg
            (first | (simp (implicitDefEqProofs := false) [goB, q_l_are_rows_3, lastD', isN, hg']; done) | simp [goB, q_l_are_rows_3, lastD', isN, hg'])
          | true =>
            rw [q1] at hg
            have hg' : F_l_are_hosts.run [b, .bool false, .int 12] = some (.v (.bool true), []) := hg
            obtain ⟨l, rfl, hl⟩ := lhs_get q1
            obtain ⟨A, lc, al⟩ := rise_lcL o0 (some (.v .none)) "" (l := l) (by omega)
            have rg : rng1 [.int ((l.length : Int) - 1)] = some (Z.upTo 0 (l.length - 1)) := by
              rw [x_rng1 (by omega) (by omega)]
              congr 2
              omega
            have ln : (l.map hostD).length = l.length := List.length_map _
            dsimp only
            rw [map_deH, Bool.true_and]
            cases q2 : riseH l with
            | false =>
              rw [q2] at al
              refine exF ?_
              generalize Z.upTo 0 (l.length - 1) = U at lc rg
              generalize l.map hostD = L at *
              rw [← ln] at rg
              (first | (simp (implicitDefEqProofs := false) [goB, q_l_are_rows_3, lastD', isN, hg', rg, lc, al]; done) | simp [goB, q_l_are_rows_3, lastD', isN, hg', rg, lc, al])
            | true =>
              rw [q2] at al
              refine ⟨[o0, some (.v (.str "")), some (.v (.tuple [.str "", .tuple (l.map hostD)])), none], ?_, fun _ => rfl⟩
              generalize Z.upTo 0 (l.length - 1) = U at lc rg
              generalize l.map hostD = L at *
              rw [← ln] at rg
              (first | (simp (implicitDefEqProofs := false) [goB, q_l_are_rows_3, lastD', isN, hg', rg, lc, al]; done) | simp [goB, q_l_are_rows_3, lastD', isN, hg', rg, lc, al])
      · rw [decide_eq_false c, Bool.false_and, Bool.false_and, Bool.or_false]
        cases q0 : nameS s with
        | false =>
          rw [q0] at na
          rw [Bool.false_and, Bool.false_and]
          refine exF ?_
          (first | (simp (implicitDefEqProofs := false) [goB, q_l_are_rows_3, lastD', c, na]; done) | simp [goB, q_l_are_rows_3, lastD', c, na])
        | true =>
          rw [q0] at na
          rw [Bool.true_and]
          have key : ∀ (lv : Option RV), lv = lastD' last → ((last.all fun l => slt l s) = false → ∃ ρ', q_l_are_rows_3 [o0, lv, some (.v (.tuple [.str s, b])), none] = some (.rt (.v (.bool false)), ρ')) ∧
              ((last.all fun l => slt l s) = true → ∃ ρ', q_l_are_rows_3 [o0, lv, some (.v (.tuple [.str s, b])), none] = some (goB (hostsB b), ρ') ∧ (hostsB b = true → ρ' = [o0, some (.v (.str s)), some (.v (.tuple [.str s, b])), none])) := by
            intro lv hlv
            subst hlv
            constructor
            · intro hq
              cases last with
              | none => cases hq
              | some l =>
                have hq : slt l s = false := hq
                have e := le_str s l
                rw [hq] at e
                refine ⟨[o0, some (.v (.str l)), some (.v (.tuple [.str s, b])), none], ?_⟩
                (first | (simp (implicitDefEqProofs := false) [goB, q_l_are_rows_3, lastD', isN, c, na, e]; done) | simp [goB, q_l_are_rows_3, lastD', isN, c, na, e])
            · intro hq
              have hcond : ∀ (lv : Option RV), lv = lastD' last → (lv = some (.v .none) ∨ ∃ l, lv = some (.v (.str l)) ∧ leD (.str s) (.str l) = some (.v (.bool false))) := by
                intro lv h
                cases last with
                | none => exact .inl h
                | some l =>
                  have hq : slt l s = true := hq
                  have e := le_str s l
                  rw [hq] at e
                  exact .inr ⟨l, h, e⟩
              have hc := hcond _ rfl
              generalize lastD' last = lv at hc ⊢
              rw [hostsB_lhs]
              cases q1 : lhsB true 4 b with
              | false =>
                rw [q1] at hh
                have hh' : F_l_are_hosts.run [b, .bool true, .int 4] = some (.v (.bool false), []) := hh
                rcases hc with rfl | ⟨l, rfl, e⟩
                · refine exF ?_
                  (first | (simp (implicitDefEqProofs := false) [goB, q_l_are_rows_3, isN, c, na, hh']; done) | simp [goB, q_l_are_rows_3, isN, c, na, hh'])
                · refine exF ?_
                  (first | (simp (implicitDefEqProofs := false) [goB, q_l_are_rows_3, isN, c, na, hh', e]; done) | simp [goB, q_l_are_rows_3, isN, c, na, hh', e])
              | true =>
                rw [q1] at hh
                have hh' : F_l_are_hosts.run [b, .bool true, .int 4] = some (.v (.bool true), []) := hh
                obtain ⟨l, rfl, hl⟩ := lhs_get q1
                dsimp only
                rw [map_deH, Bool.true_and]
                obtain ⟨A, lc, al⟩ := unlike_lcL o0 lv s (l := l) (by omega)
                have ln : (l.map hostD).length = l.length := List.length_map _
                have rg : rng1 [.int (l.length : Int)] = some (Z.upTo 0 l.length) := rng_m (by omega)
                generalize Z.upTo 0 l.length = U at lc rg
                generalize unlikeH l = u at al
                generalize l.map hostD = L at *
                rw [← ln] at rg
                cases u with
                | false =>
                  rcases hc with rfl | ⟨k, rfl, e⟩
                  · refine exF ?_
                    (first | (simp (implicitDefEqProofs := false) [goB, q_l_are_rows_3, isN, c, na, hh', rg, lc, al]; done) | simp [goB, q_l_are_rows_3, isN, c, na, hh', rg, lc, al])
                  · refine exF ?_
                    (first | (simp (implicitDefEqProofs := false) [goB, q_l_are_rows_3, isN, c, na, hh', e, rg, lc, al]; done) | simp [goB, q_l_are_rows_3, isN, c, na, hh', e, rg, lc, al])
                | true =>
                  rcases hc with rfl | ⟨k, rfl, e⟩
                  · refine ⟨_, ?_, fun _ => rfl⟩
                    (first | (simp (implicitDefEqProofs := false) [goB, q_l_are_rows_3, isN, c, na, hh', rg, lc, al]; done) | simp [goB, q_l_are_rows_3, isN, c, na, hh', rg, lc, al])
                  · refine ⟨_, ?_, fun _ => rfl⟩
                    (first | (simp (implicitDefEqProofs := false) [goB, q_l_are_rows_3, isN, c, na, hh', e, rg, lc, al]; done) | simp [goB, q_l_are_rows_3, isN, c, na, hh', e, rg, lc, al])
          obtain ⟨k1, k2⟩ := key _ rfl
          cases q2 : last.all fun l => slt l s with
          | false =>
            obtain ⟨ρ', e⟩ := k1 q2
            rw [Bool.and_false]
            exact ⟨ρ', e, fun q => by cases q⟩
          | true =>
            obtain ⟨ρ', e, e2⟩ := k2 q2
            rw [Bool.and_true]
            exact ⟨ρ', e, e2⟩
    | _ =>
      rw [no (fun s b q => by cases q)]
      refine exF ?_
      (first | (simp (implicitDefEqProofs := false) [goB, q_l_are_rows_3]; done) | simp [goB, q_l_are_rows_3])
  · rw [no (fun s b => hn _ _)]
    refine exF ?_
    (first | (simp (implicitDefEqProofs := false) [goB, q_l_are_rows_3, ht]; done) | simp [goB, q_l_are_rows_3, ht])
  · rw [no (fun s b => hn _ _)]
    have hl' : ¬ ((ds.length : Int) = 2) := by omega
    refine exF ?_
    (first | (simp (implicitDefEqProofs := false) [goB, q_l_are_rows_3, hl']; done) | simp [goB, q_l_are_rows_3, hl'])
def lrowsL : Option Str → List D → Bool
  | _, [] => true
  | last, r :: rs => lstep last r && lrowsL (some (deN r)) rs
theorem rows_loop (o0 : Option RV) : ∀ (rs : List D) (last : Option Str) (o2 : Option RV), FinL rs →
    (lrowsL last rs = true ∧ ∃ ρ', forL (gN [] 2) q_l_are_rows_3 rs [o0, lastD' last, o2, none] = some (.nx, ρ')) ∨
    (lrowsL last rs = false ∧ ∃ ρ', forL (gN [] 2) q_l_are_rows_3 rs [o0, lastD' last, o2, none] = some (.rt (.v (.bool false)), ρ'))
  | [], last, o2, _ => .inl ⟨rfl, _, rfl⟩
  | r :: rs, last, o2, h => by
    obtain ⟨ρ', e, e2⟩ := row_step (h r List.mem_cons_self) o0 last
    have g : gN [] 2 r [o0, lastD' last, o2, none] = some [o0, lastD' last, some (.v r), none] := rfl
    rw [lrowsL]
    unfold forL
    rw [g, Option.bind_some, e]
    cases q : lstep last r with
    | false => exact .inr ⟨rfl, _, rfl⟩
    | true =>
      rw [e2 q, Bool.true_and]
      exact rows_loop o0 rs (some (deN r)) (some (.v r)) fun x hx => h x (List.mem_cons_of_mem _ hx)
/-- the two ways to say it -/
theorem rows_rest : ∀ (rs : List D) (l : Str) (k : Nat), 0 < k → lrowsL (some l) rs = ((rs.zipIdx k).all rowAt && riseS (l :: rs.map deN))
  | [], l, k, _ => rfl
  | r :: rs, l, k, hk => by
    rw [lrowsL, rows_rest rs (deN r) (k + 1) (by omega), List.zipIdx_cons, List.all_cons, List.map_cons, riseS_cons']
    have e1 : lstep (some l) r = (entryB r && slt l (deN r)) := by
      unfold lstep
      rw [Option.isNone_some, Bool.and_false, Bool.or_false]; rfl
    have e2 : rowAt (r, k) = entryB r := by
      unfold rowAt
      rw [decide_eq_false (show ¬ (r, k).2 = 0 by show ¬ k = 0; omega), Bool.false_and, Bool.or_false]
    rw [e1, e2]
    cases entryB r <;> cases slt l (deN r) <;> cases (rs.zipIdx (k + 1)).all rowAt <;> rfl
where
  riseS_cons' (a b : Str) (l : List Str) : riseS (a :: b :: l) = (slt a b && riseS (b :: l)) := by
    unfold riseS
    rw [List.drop_one, List.drop_one, List.tail_cons, List.tail_cons, List.zip_cons_cons, List.all_cons]
theorem lrows_eq (rs : List D) : lrowsL none rs = (rs.zipIdx.all rowAt && riseS (rs.map deN)) := by
  cases rs with
  | nil => rfl
  | cons r rs =>
    rw [lrowsL, rows_rest rs (deN r) 1 (by omega), List.zipIdx_cons, List.all_cons, List.map_cons]
    have e1 : lstep none r = rowAt (r, 0) := by
      unfold lstep rowAt
      rw [Option.isNone_none, Bool.and_true]
      show (entryB r && true || glueRowB r) = (entryB r || (decide (0 = 0) && glueRowB r))
      rw [Bool.and_true, decide_eq_true rfl, Bool.true_and]
    rw [e1, Bool.and_assoc]
theorem lrows_any {v : D} (h : Fine v) : F_l_are_rows.run [v] = some (.v (.bool (rowsB v)), []) := by
  rw [u_l_are_rows, x_run _ _ _ _ rfl, b_l_are_rows]
  cases v with
  | tuple rs =>
    have hb : rowsB (.tuple rs) = (decide (rs.length ≤ 9) && lrowsL none rs) := by rw [lrows_eq]; rfl
    rw [hb]
    by_cases hl : rs.length ≤ 9
    · have hl' : ¬ 9 < (rs.length : Int) := by omega
      rcases rows_loop (some (.v (.tuple rs))) rs none none (fine_tup.mp h) with ⟨c, ρ', e⟩ | ⟨c, ρ', e⟩
      · rw [c]
        simp only [lastD'] at e
        (first | (simp (implicitDefEqProofs := false) [hl, hl', e]; done) | simp [hl, hl', e])
      · rw [c]
        simp only [lastD'] at e
        (first | (simp (implicitDefEqProofs := false) [hl, hl', e]; done) | simp [hl, hl', e])
    · have hl' : 9 < (rs.length : Int) := by omega
      (first | (simp (implicitDefEqProofs := false) [hl, hl']; done) | simp [hl, hl'])
  | _ => (first | (simp (implicitDefEqProofs := false) [rowsB]; done) | simp [rowsB])
end K72
namespace K72
open PySem PySem.Spec L2 Z PySem.NumText
open PyProof.Rows hiding St

/-! ## numbers -/
abbrev fig : Str := "0123456789"
theorem in_fig (c : Nat) : inD (.str ⟨#[c]⟩) (.str "0123456789") = some (.v (.bool (signIn c fig))) := rfl
theorem fig_dig {c : Nat} (h : signIn c fig = true) : 48 ≤ c ∧ c ≤ 57 := by
  have e : fig.cps.toList = [48, 49, 50, 51, 52, 53, 54, 55, 56, 57] := by decide
  unfold signIn at h
  have h2 : c ∈ fig.cps.toList := by
    first
      | exact of_decide_eq_true h
      | simpa using h
  rw [e] at h2
  simp only [List.mem_cons, List.not_mem_nil, or_false] at h2
  omega
def digs (s : Str) : Bool := s.cps.toList.all fun c => signIn c fig
theorem digs_all {s : Str} (h : digs s = true) : AllDigits s.cps.toList := fun c hc => fig_dig (List.all_eq_true.mp h c hc)
abbrev val (s : Str) : Nat := digitsVal s.cps.toList
theorem int_dig {s : Str} (h : digs s = true) (hn : s ≠ "") (hl : s.length ≤ 640) : intD [.str s] = some (.v (.int (val s))) := by
  have h1 : s.cps.toList ≠ [] := fun e => hn (chs_inj e)
  have e := intText_digits (digs_all h) h1 (by omega)
  show (if decide (s.length ≤ 640) then (PySem.intText? s).map fun n => RV.v (.int n) else none) = _
  rw [e, decide_eq_true hl]; rfl
theorem fold_dig : ∀ (l : List Nat) (a : Nat), AllDigits l → a * 10 ^ l.length ≤ l.foldl (fun acc c => acc * 10 + (c - 48)) a ∧ l.foldl (fun acc c => acc * 10 + (c - 48)) a < (a + 1) * 10 ^ l.length
  | [], a, _ => by simp
  | c :: l, a, h => by
    obtain ⟨g1, g2⟩ := fold_dig l (a * 10 + (c - 48)) h.tail
    have hc := h.head
    have e : 10 ^ (c :: l).length = 10 * 10 ^ l.length := by rw [List.length_cons, Nat.pow_succ, Nat.mul_comm]
    rw [e, List.foldl_cons]
    have p : 0 < 10 ^ l.length := Nat.pow_pos (by omega)
    generalize 10 ^ l.length = m at *
    refine ⟨Nat.le_trans ?_ g1, Nat.lt_of_lt_of_le g2 ?_⟩
    · rw [← Nat.mul_assoc]; exact Nat.mul_le_mul_right _ (by omega)
    · rw [← Nat.mul_assoc]; exact Nat.mul_le_mul_right _ (by omega)
def numB (s : Str) : Bool := !decide (s = "") && (digs s && !(decide ((chs s).head? = some 48) && !decide (s = "0")))
theorem head_of {s : Str} (h : s ≠ "") : ∃ c r, chs s = c :: r := by
  cases e : chs s with
  | nil => exact absurd (chs_inj e) h
  | cons c r => exact ⟨c, r, rfl⟩
theorem val_lo {s : Str} (h : numB s = true) (hl : 4 ≤ s.length) : 1000 ≤ val s := by
  unfold numB at h
  simp only [Bool.and_eq_true, Bool.not_eq_true', decide_eq_false_iff_not, Bool.and_eq_false_iff] at h
  obtain ⟨h1, h2, h3⟩ := h
  obtain ⟨c, r, e⟩ := head_of h1
  have ad := digs_all h2
  have hs0 : ¬ s = "0" := fun e => by rw [e] at hl; exact absurd hl (by decide)
  have hc : c ≠ 48 := by
    rcases h3 with h3 | h3
    · rw [e] at h3
      intro q
      exact h3 (by rw [q]; rfl)
    · simp [hs0] at h3
  have hl2 : r.length + 1 = s.length := by rw [← chs_len, e]; rfl
  unfold val digitsVal
  show 1000 ≤ (chs s).foldl _ 0
  have ad : AllDigits (chs s) := ad
  rw [e] at ad ⊢
  have hc2 := ad.head
  have g := (fold_dig r (0 * 10 + (c - 48)) ad.tail).1
  rw [List.foldl_cons]
  refine Nat.le_trans ?_ g
  have p : 10 ^ 3 ≤ 10 ^ r.length := Nat.pow_le_pow_right (by omega) (by omega)
  calc 1000 = 1 * 10 ^ 3 := by decide
    _ ≤ (0 * 10 + (c - 48)) * 10 ^ r.length := Nat.mul_le_mul (by omega) p
theorem val_hi {s : Str} (h : digs s = true) (hl : s.length ≤ 3) : val s ≤ 999 := by
  have g := (fold_dig (chs s) 0 (digs_all h)).2
  have p : 10 ^ (chs s).length ≤ 10 ^ 3 := Nat.pow_le_pow_right (by omega) (by rw [chs_len]; exact hl)
  have : val s < (0 + 1) * 10 ^ (chs s).length := g
  omega
theorem ix0 {s : Str} {c : Nat} {r : List Nat} (e : chs s = c :: r) (hl : s.length ≤ 4000) : ixD (.str s) (.int 0) = some (.v (.str ⟨#[c]⟩)) := by
  show (if szb s.length then (atI s.cps.toList 0).map fun c => RV.v (.str ⟨#[c]⟩) else none) = _
  rw [show szb s.length = true from decide_eq_true (by omega), show s.cps.toList = c :: r from e]
  have e2 : atI (c :: r) 0 = some c := by
    unfold atI
    rw [show ixN (c :: r).length 0 = some 0 by unfold ixN; simp]
    rfl
  rw [e2]
  rfl
theorem one_zero (c : Nat) : decide ((⟨#[c]⟩ : Str) = "0") = decide (c = 48) := by
  by_cases h : c = 48
  · subst h; decide
  · have : ¬ (⟨#[c]⟩ : Str) = "0" := fun e => by
      have e2 : [c] = [48] := congrArg chs e
      simp at e2
      exact h e2
    rw [decide_eq_false h, decide_eq_false this]
def numD (s : Str) : D := if numB s then .int (val s) else .none
theorem number_run {s : Str} (hl : s.length ≤ 4000) (h : numB s = true → s.length ≤ 640) : F_number_in.run [.str s] = some (.v (numD s), []) := by
  rw [u_number_in, x_run _ _ _ _ rfl, b_number_in]
  have sl : s.cps.toList.length = s.length := by rw [Array.length_toList]; rfl
  have lc : lcL [1] (gN [] 1) bYes q_number_in_1 (signs s) [some (.v (.str s)), none] [] = some (s.cps.toList.map (fun c => .bool (signIn c fig)), [some (.v (.str s)), none]) := by
    refine lcL_enc (fun c => .str ⟨#[c]⟩) (fun c => .bool (signIn c fig)) (by omega) fun c hc => ?_
    have e := in_fig c
    exact ⟨[some (.v (.str s)), some (.v (.str ⟨#[c]⟩))], _, .v (.bool (signIn c fig)), [some (.v (.str s)), some (.v (.str ⟨#[c]⟩))], rfl, rfl, by simp [q_number_in_1, e], rfl, rfl⟩
  have al := allB (fun c => signIn c fig) s.cps.toList
  generalize s.cps.toList.map (fun c => PyData.bool (signIn c fig)) = A at lc al
  have dg : (s.cps.toList.all fun c => signIn c fig) = digs s := rfl
  rw [dg] at al
  unfold numD
  by_cases c1 : s = ""
  · have nb : numB s = false := by unfold numB; rw [decide_eq_true c1]; rfl
    subst c1
    rw [nb]
    simp
  · obtain ⟨c, r, e⟩ := head_of c1
    have e0 := ix0 e hl
    have oz := one_zero c
    have nb : numB s = (digs s && !(decide (c = 48) && !decide (s = "0"))) := by
      unfold numB
      rw [decide_eq_false c1, e, Bool.not_false, Bool.true_and]
      congr 3
      by_cases q : c = 48 <;> simp [q]
    cases c2 : digs s with
    | false =>
      rw [c2] at al nb
      rw [nb]
      simp [c1, lc, al]
    | true =>
      rw [c2] at al nb
      by_cases c3 : c = 48
      · by_cases c4 : s = "0"
        · subst c4
          kernel_rfl
        · rw [decide_eq_true c3, decide_eq_false c4] at nb
          rw [nb]
          have c3' : (⟨#[c]⟩ : Str) = "0" := by rw [c3]; rfl
          simp [c1, lc, al, e0, c3', c4]
      · rw [decide_eq_false c3] at nb
        have iv := int_dig c2 c1 (h nb)
        rw [nb]
        have c3' : ¬ (⟨#[c]⟩ : Str) = "0" := fun q => by
          have := decide_eq_true q
          rw [oz, decide_eq_false c3] at this
          cases this
        simp [c1, lc, al, e0, c3', iv]
/-! ## the first line -/
def serW : List Str → D
  | [a, b] => if decide (a = "serial") && (numB b && decide (b.length ≤ 3)) then .int (val b) else .none
  | _ => .none
theorem serW_no {ws : List Str} (h : ∀ a b, ws ≠ [a, b]) : serW ws = .none := by
  unfold serW
  split
  · exact absurd rfl (h _ _)
  · rfl
abbrev serD (l : Str) : D := serW (Txt.split l " ")
@[simp] theorem isN_int (z : Int) : isN (.int z) = false := rfl
@[simp] theorem isN_none : isN (.none : D) = true := rfl
/-- no number in the line is too long to be read -/
def Few (l : Str) : Prop := l.length ≤ 4000 ∧ ∀ w ∈ Txt.split l " ", digs w = true → w.length ≤ 640
theorem split_run (l : Str) (hl : l.length ≤ 4000) (c : Nat) : splitD (.str l) [.str ⟨#[c]⟩] = some (.o (.list ((Txt.split l ⟨#[c]⟩).map .str))) := by
  show (if decide ((⟨#[c]⟩ : Str).length ≠ 0) && decide (l.length + 2 ≤ 16777216) then some (RV.o (.list ((Txt.split l ⟨#[c]⟩).map .str))) else none) = _
  rw [decide_eq_true (show (⟨#[c]⟩ : Str).length ≠ 0 from fun h => by cases h), decide_eq_true (by omega)]; rfl
theorem two_or (ws : List Str) : (∃ a b, ws = [a, b]) ∨ (ws.length ≠ 2 ∧ ∀ a b, ws ≠ [a, b]) := by
  match ws with
  | [] => exact .inr ⟨by simp, by simp⟩
  | [_] => exact .inr ⟨by simp, by simp⟩
  | [a, b] => exact .inl ⟨a, b, rfl⟩
  | _ :: _ :: _ :: _ => exact .inr ⟨by simp, by simp⟩
theorem len_map_str (ws : List Str) (h : ws.length ≤ 5000) : lenD [.list (ws.map .str)] = some (.v (.int ws.length)) := by
  rw [x_lenL, List.length_map]
theorem serial_run {l : Str} (h : Few l) : F_serial_in.run [.str l] = some (.v (serD l), []) := by
  have sp := split_run l h.1 32
  have hn := split_le l ⟨#[32]⟩
  have e32 : (" " : Str) = ⟨#[32]⟩ := rfl
  rw [u_serial_in, x_run _ _ _ _ rfl, b_serial_in]
  unfold serD
  have hf := h.2
  rw [e32] at hf ⊢
  have hw : ∀ w ∈ Txt.split l ⟨#[32]⟩, w.length ≤ 4000 := fun w hw => Nat.le_trans (split_len_le hw) h.1
  generalize Txt.split l ⟨#[32]⟩ = ws at *
  have ln := len_map_str ws (by have := h.1; omega)
  rcases two_or ws with ⟨a, b, rfl⟩ | ⟨h2, h3⟩
  · have hb : numB b = true → b.length ≤ 640 := fun q => hf b (by simp) (by
      unfold numB at q
      simp only [Bool.and_eq_true] at q
      exact q.2.1)
    have nr := number_run (hw b (by simp)) hb
    unfold numD at nr
    by_cases c1 : a = "serial"
    · cases c2 : numB b with
      | false => rw [c2] at nr; simp [sp, ln, c1, nr, c2, serW]
      | true =>
        rw [c2] at nr
        by_cases c3 : b.length ≤ 3
        · have v := val_hi (s := b) (by unfold numB at c2; simp only [Bool.and_eq_true] at c2; exact c2.2.1) c3
          have v' : ¬ (999 : Int) < (val b : Int) := by omega
          have es : serW [a, b] = .int (val b) := by simp [serW, c1, c2, c3]
          rw [es]
          clear es
          generalize (val b : Int) = z at *
          simp [sp, ln, c1, nr, c2, c3, v', serW]
        · have v := val_lo c2 (by omega)
          have v' : (999 : Int) < (val b : Int) := by omega
          generalize (val b : Int) = z at *
          simp [sp, ln, c1, nr, c2, c3, v', serW]
    · simp [sp, ln, c1, serW]
  · rw [serW_no h3]
    have h2' : ¬ (ws.length : Int) = 2 := by omega
    simp [sp, ln, h2, h2']
end K72
namespace K72
open PySem PySem.Spec L2 Z PySem.NumText
open PyProof.Rows hiding St

theorem len_nat (s : Str) (h : s.length ≤ 4000) : lenD [.str s] = some (.v (.int (s.length : Int))) := len_str h
theorem lserial_run {l : Str} (h : Few l) : F_l_serial_of.run [.str l] = some (.v (serD l), []) := by
  have sp := split_run l h.1 32
  have hn := split_le l ⟨#[32]⟩
  have e32 : (" " : Str) = ⟨#[32]⟩ := rfl
  rw [u_l_serial_of, x_run _ _ _ _ rfl, b_l_serial_of]
  unfold serD
  rw [e32]
  have hw : ∀ w ∈ Txt.split l ⟨#[32]⟩, w.length ≤ 4000 := fun w hw => Nat.le_trans (split_len_le hw) h.1
  generalize Txt.split l ⟨#[32]⟩ = ws at *
  have ln := len_map_str ws (by have := h.1; omega)
  rcases two_or ws with ⟨a, b, rfl⟩ | ⟨h2, h3⟩
  · have hb := hw b (by simp)
    have lb := len_str hb
    have sl : b.cps.toList.length = b.length := by rw [Array.length_toList]; rfl
    have lc : lcL [2] (gN [] 2) bYes q_l_serial_of_1 (signs b) [some (.v (.str l)), some (.o (.list [.str a, .str b])), none] [] = some (b.cps.toList.map (fun c => .bool (signIn c fig)), [some (.v (.str l)), some (.o (.list [.str a, .str b])), none]) := by
      refine lcL_enc (fun c => .str ⟨#[c]⟩) (fun c => .bool (signIn c fig)) (by omega) fun c hc => ?_
      have e := in_fig c
      exact ⟨[some (.v (.str l)), some (.o (.list [.str a, .str b])), some (.v (.str ⟨#[c]⟩))], _, .v (.bool (signIn c fig)), [some (.v (.str l)), some (.o (.list [.str a, .str b])), some (.v (.str ⟨#[c]⟩))], rfl, rfl, by simp [q_l_serial_of_1, e], rfl, rfl⟩
    have al := allB (fun c => signIn c fig) b.cps.toList
    generalize b.cps.toList.map (fun c => PyData.bool (signIn c fig)) = A at lc al
    have dg : (b.cps.toList.all fun c => signIn c fig) = digs b := rfl
    rw [dg] at al
    by_cases c1 : a = "serial"
    · subst c1
      by_cases c3 : b.length ≤ 3
      · have c3' : ¬ (3 : Int) < (b.length : Int) := by omega
        by_cases c4 : b = ""
        · have es : serW ["serial", b] = .none := by
            have nb : numB b = false := by unfold numB; rw [decide_eq_true c4]; rfl
            simp [serW, nb]
          rw [es]
          subst c4
          simp [sp, ln, lb, c3, c3']
        · obtain ⟨c, r, e⟩ := head_of c4
          have e0 := ix0 e hb
          have oz := one_zero c
          have lr : b.length = r.length + 1 := by rw [← chs_len, e]; rfl
          have nb : numB b = (digs b && !(decide (c = 48) && decide (1 < b.length))) := by
            unfold numB
            rw [decide_eq_false c4, e, Bool.not_false, Bool.true_and]
            have q : (!decide (b = "0")) = (!decide (c = 48) || decide (1 < b.length)) := by
              by_cases c5 : b = "0"
              · have e2 : [48] = c :: r := by rw [← e, c5]; rfl
                simp only [List.cons.injEq] at e2
                subst c5
                rw [← e2.1]
                decide
              · by_cases c6 : c = 48
                · have : 1 < b.length := by
                    rw [lr]
                    cases r with
                    | nil => exact absurd (chs_inj (by rw [e, c6]; rfl)) c5
                    | cons _ _ => simp
                  simp [c5, this]
                · simp [c5, c6]
            rw [q]
            by_cases c6 : c = 48 <;> simp [c6]
          have es : serW ["serial", b] = if numB b then .int (val b) else .none := by simp [serW, c3]
          rw [es, nb]
          cases c2 : digs b with
          | false =>
            rw [c2] at al
            simp [sp, ln, lb, c3, c3', c4, lc, al]
          | true =>
            rw [c2] at al
            have iv := int_dig c2 c4 (by omega)
            by_cases c5 : 1 < b.length
            · have c5' : (1 : Int) < (b.length : Int) := by omega
              by_cases c6 : c = 48
              · subst c6
                have c6' : (⟨#[48]⟩ : Str) = "0" := rfl
                simp [sp, ln, lb, c3, c3', c4, lc, al, c5, c5', e0, c6']
              · have c6' : ¬ (⟨#[c]⟩ : Str) = "0" := fun q => by
                  have := decide_eq_true q
                  rw [oz, decide_eq_false c6] at this
                  cases this
                generalize (val b : Int) = z at *
                simp [sp, ln, lb, c3, c3', c4, lc, al, c5, c5', e0, c6, c6', iv]
            · have c5' : ¬ (1 : Int) < (b.length : Int) := by omega
              generalize (val b : Int) = z at *
              simp [sp, ln, lb, c3, c3', c4, lc, al, c5, c5', iv]
      · have c3' : (3 : Int) < (b.length : Int) := by omega
        have es : serW ["serial", b] = .none := by simp [serW, c3]
        rw [es]
        simp [sp, ln, lb, c3, c3']
    · have es : serW [a, b] = .none := by simp [serW, c1]
      rw [es]
      simp [sp, ln, c1]
  · rw [serW_no h3]
    have h2' : ¬ (ws.length : Int) = 2 := by omega
    simp [sp, ln, h2, h2']

/-! ## hosts, rows -/
def hostW : List Str → D
  | [a, b] => if nameS a && (decide (b = "") || nameS b) then hostD (a, b) else .none
  | _ => .none
theorem hostW_no {ws : List Str} (h : ∀ a b, ws ≠ [a, b]) : hostW ws = .none := by
  unfold hostW
  split
  · exact absurd rfl (h _ _)
  · rfl
abbrev hostIn (w : Str) : D := hostW (Txt.split w ".")
theorem fine_of {s : Str} (h : s.length ≤ 4000) : Fine (.str s) := fine_str.mpr h
theorem host_run {w : Str} (h : w.length ≤ 4000) : F_host_in.run [.str w] = some (.v (hostIn w), []) := by
  have sp := split_run w h 46
  have hn := split_le w ⟨#[46]⟩
  have e46 : ("." : Str) = ⟨#[46]⟩ := rfl
  rw [u_host_in, x_run _ _ _ _ rfl, b_host_in]
  unfold hostIn
  rw [e46]
  have hw : ∀ p ∈ Txt.split w ⟨#[46]⟩, p.length ≤ 4000 := fun p hp => Nat.le_trans (split_len_le hp) h
  generalize Txt.split w ⟨#[46]⟩ = ws at *
  have ln := len_map_str ws (by omega)
  rcases two_or ws with ⟨a, b, rfl⟩ | ⟨h2, h3⟩
  · have na := name_any (fine_of (hw a (by simp)))
    have nb := name_any (fine_of (hw b (by simp)))
    have ea : nameB (.str a) = nameS a := rfl
    have eb : nameB (.str b) = nameS b := rfl
    rw [ea] at na
    rw [eb] at nb
    unfold hostW
    cases c1 : nameS a with
    | false => rw [c1] at na; simp [sp, ln, na, c1]
    | true =>
      rw [c1] at na
      by_cases c2 : b = ""
      · subst c2
        simp [sp, ln, na, hostD, c1]
      · cases c3 : nameS b with
        | false => rw [c3] at nb; simp [sp, ln, na, nb, c2, c1, c3]
        | true => rw [c3] at nb; simp [sp, ln, na, nb, c2, hostD, c1, c3]
  · rw [hostW_no h3]
    have h2' : ¬ (ws.length : Int) = 2 := by omega
    simp [sp, ln, h2, h2']
theorem lhost_run {w : Str} (h : w.length ≤ 4000) : F_l_host_of.run [.str w] = some (.v (hostIn w), []) := by
  have sp := split_run w h 46
  have hn := split_le w ⟨#[46]⟩
  have e46 : ("." : Str) = ⟨#[46]⟩ := rfl
  rw [u_l_host_of, x_run _ _ _ _ rfl, b_l_host_of]
  unfold hostIn
  rw [e46]
  have hw : ∀ p ∈ Txt.split w ⟨#[46]⟩, p.length ≤ 4000 := fun p hp => Nat.le_trans (split_len_le hp) h
  generalize Txt.split w ⟨#[46]⟩ = ws at *
  have ln := len_map_str ws (by omega)
  rcases two_or ws with ⟨a, b, rfl⟩ | ⟨h2, h3⟩
  · have na := lname_any (fine_of (hw a (by simp)))
    have nb := lname_any (fine_of (hw b (by simp)))
    have ea : nameB (.str a) = nameS a := rfl
    have eb : nameB (.str b) = nameS b := rfl
    rw [ea] at na
    rw [eb] at nb
    unfold hostW
    cases c1 : nameS a with
    | false => rw [c1] at na; simp [sp, ln, na, c1]
    | true =>
      rw [c1] at na
      by_cases c2 : b = ""
      · subst c2
        simp [sp, ln, na, hostD, c1]
      · cases c3 : nameS b with
        | false => rw [c3] at nb; simp [sp, ln, na, nb, c2, c1, c3]
        | true => rw [c3] at nb; simp [sp, ln, na, nb, c2, hostD, c1, c3]
  · rw [hostW_no h3]
    have h2' : ¬ (ws.length : Int) = 2 := by omega
    simp [sp, ln, h2, h2']
theorem eqv_hn (p : Host) : PyData.eqv (hostD p) .none = false := by unfold hostD; simp [PyData.eqv]
theorem hostW_or (ws : List Str) : hostW ws = .none ∨ ∃ p : Host, hostW ws = hostD p ∧ HostOk p := by
  rcases two_or ws with ⟨a, b, rfl⟩ | ⟨_, h⟩
  · show (if (nameS a && (decide (b = "") || nameS b)) = true then hostD (a, b) else PyData.none) = _ ∨ ∃ p : Host, (if (nameS a && (decide (b = "") || nameS b)) = true then hostD (a, b) else PyData.none) = _ ∧ _
    by_cases c : (nameS a && (decide (b = "") || nameS b)) = true
    · rw [if_pos c]
      simp only [Bool.and_eq_true, Bool.or_eq_true, decide_eq_true_eq] at c
      exact .inr ⟨(a, b), rfl, c⟩
    · rw [if_neg c]; exact .inl rfl
  · exact .inl (hostW_no h)
def badW (ws : List Str) : Bool := ws.any fun w => isN (hostIn w)
theorem none_in (ws : List Str) : inD .none (.list (ws.map hostIn)) = some (.v (.bool (badW ws))) := by
  unfold badW
  have h1 : noDicts (ws.map hostIn) = true := by
    induction ws with
    | nil => rfl
    | cons w ws ih =>
      rw [List.map_cons, noDicts, ih]
      rcases hostW_or (Txt.split w ".") with e | ⟨p, e, _⟩
      · unfold hostIn; rw [e]; rfl
      · unfold hostIn; rw [e]; rfl
  have h2 : ((ws.map hostIn).any fun y => PyData.eqv y .none) = ws.any fun w => isN (hostIn w) := by
    rw [List.any_map]
    congr 1
    funext w
    show PyData.eqv (hostIn w) .none = _
    rcases hostW_or (Txt.split w ".") with e | ⟨p, e, _⟩
    · unfold hostIn; rw [e]; simp [PyData.eqv]
    · unfold hostIn; rw [e, eqv_hn]; rfl
  rw [← h2]
  show (if okE (.none : D) && noDicts (ws.map hostIn) then bl _ else none) = _
  rw [h1]
  rfl
/-- a row's words -/
def rowW : List Str → D
  | [] => .none
  | w :: ws => if badW ws then .none else if w = "*" then .tuple [.str "", .tuple (ws.map hostIn)] else if nameS w then .tuple [.str w, .tuple (ws.map hostIn)] else .none
def rowP : List Str → D
  | [] => .none
  | w :: ws => if 12 < ws.length then .none else rowW (w :: ws)
theorem row_run {l : Str} (h : l.length ≤ 4000) : F_row_in.run [.str l] = some (.v (rowP (Txt.split l " ")), []) := by
  have sp := split_run l h 32
  have hn := split_le l ⟨#[32]⟩
  have hp := split_pos l ⟨#[32]⟩
  have e32 : (" " : Str) = ⟨#[32]⟩ := rfl
  rw [u_row_in, x_run _ _ _ _ rfl, b_row_in, e32]
  have hw : ∀ p ∈ Txt.split l ⟨#[32]⟩, p.length ≤ 4000 := fun p hp => Nat.le_trans (split_len_le hp) h
  generalize Txt.split l ⟨#[32]⟩ = ws at *
  cases ws with
  | nil => simp at hp
  | cons w ws =>
    have lc : lcL [3] (gN [] 3) bYes q_row_in_1 (ws.map .str) [some (.v (.str l)), some (.o (.list (.str w :: ws.map .str))), none, none] [] = some (ws.map hostIn, [some (.v (.str l)), some (.o (.list (.str w :: ws.map .str))), none, none]) := by
      refine lcL_enc PyData.str hostIn (by simp at hn; omega) fun v hv => ?_
      have hr := host_run (hw v (by simp [hv]))
      generalize PyData.str w :: ws.map PyData.str = A
      exact ⟨[some (.v (.str l)), some (.o (.list A)), none, some (.v (.str v))], _, .v (hostIn v), [some (.v (.str l)), some (.o (.list A)), none, some (.v (.str v))], rfl, rfl, by simp [q_row_in_1, hr], rfl, rfl⟩
    have ni := none_in ws
    have nw := name_any (fine_of (hw w (by simp)))
    have ew : nameB (.str w) = nameS w := rfl
    rw [ew] at nw
    have hl : (ws.map hostIn).length = ws.length := List.length_map ..
    have ln : lenD [.list (ws.map hostIn)] = some (.v (.int ws.length)) := by rw [x_lenL, hl]
    have tp : tupleD [.list (ws.map hostIn)] = some (.v (.tuple (ws.map hostIn))) := rfl
    have hsz : szb (ws.map hostIn).length = true := by rw [hl]; exact decide_eq_true (by simp at hn; omega)
    have er : rowP (w :: ws) = if 12 < ws.length then .none else if badW ws then .none else if w = "*" then .tuple [.str "", .tuple (ws.map hostIn)] else if nameS w then .tuple [.str w, .tuple (ws.map hostIn)] else .none := rfl
    rw [er]
    generalize ws.map hostIn = H at *
    cases c1 : badW ws with
    | true =>
      rw [c1] at ni
      simp [sp, lc, ni, c1]
    | false =>
      rw [c1] at ni
      by_cases c2 : 12 < ws.length
      · have c2' : (12 : Int) < (ws.length : Int) := by omega
        simp [sp, lc, ni, ln, c1, c2, c2']
      · have c2' : ¬ (12 : Int) < (ws.length : Int) := by omega
        by_cases c3 : w = "*"
        · subst c3
          simp [sp, lc, ni, ln, c1, c2, c2', tp]
        · cases c4 : nameS w with
          | false => rw [c4] at nw; simp [sp, lc, ni, ln, c1, c2, c2', tp, c3, c4, nw]
          | true => rw [c4] at nw; simp [sp, lc, ni, ln, c1, c2, c2', tp, c3, c4, nw]
theorem lrow_run {l : Str} (h : l.length ≤ 4000) : F_l_row_of.run [.str l] = some (.v (rowW (Txt.split l " ")), []) := by
  have sp := split_run l h 32
  have hn := split_le l ⟨#[32]⟩
  have hp := split_pos l ⟨#[32]⟩
  have e32 : (" " : Str) = ⟨#[32]⟩ := rfl
  rw [u_l_row_of, x_run _ _ _ _ rfl, b_l_row_of, e32]
  have hw : ∀ p ∈ Txt.split l ⟨#[32]⟩, p.length ≤ 4000 := fun p hp => Nat.le_trans (split_len_le hp) h
  generalize Txt.split l ⟨#[32]⟩ = ws at *
  cases ws with
  | nil => simp at hp
  | cons w ws =>
    have lc : lcL [3] (gN [] 3) bYes q_l_row_of_2 (ws.map .str) [some (.v (.str l)), some (.o (.list (.str w :: ws.map .str))), none, none, none] [] = some (ws.map hostIn, [some (.v (.str l)), some (.o (.list (.str w :: ws.map .str))), none, none, none]) := by
      refine lcL_enc PyData.str hostIn (by simp at hn; omega) fun v hv => ?_
      have hr := lhost_run (hw v (by simp [hv]))
      generalize PyData.str w :: ws.map PyData.str = A
      exact ⟨[some (.v (.str l)), some (.o (.list A)), none, some (.v (.str v)), none], _, .v (hostIn v), [some (.v (.str l)), some (.o (.list A)), none, some (.v (.str v)), none], rfl, rfl, by simp [q_l_row_of_2, hr], rfl, rfl⟩
    have lc2 : lcL [4] (gN [] 4) bYes q_l_row_of_1 (ws.map hostIn) [some (.v (.str l)), some (.o (.list (.str w :: ws.map .str))), some (.v (.list (ws.map hostIn))), none, none] [] = some (ws.map (fun v => .bool (isN (hostIn v))), [some (.v (.str l)), some (.o (.list (.str w :: ws.map .str))), some (.v (.list (ws.map hostIn))), none, none]) := by
      refine lcL_enc hostIn (fun v => .bool (isN (hostIn v))) (by simp at hn; omega) fun v hv => ?_
      generalize PyData.str w :: ws.map PyData.str = A
      generalize ws.map hostIn = B
      generalize hostIn v = x
      exact ⟨[some (.v (.str l)), some (.o (.list A)), some (.v (.list B)), none, some (.v x)], _, .v (.bool (isN x)), [some (.v (.str l)), some (.o (.list A)), some (.v (.list B)), none, some (.v x)], rfl, rfl, by simp [q_l_row_of_1], rfl, rfl⟩
    have an := anyB (fun v => isN (hostIn v)) ws
    have bw : (ws.any fun v => isN (hostIn v)) = badW ws := rfl
    rw [bw] at an
    have nw := lname_any (fine_of (hw w (by simp)))
    have ew : nameB (.str w) = nameS w := rfl
    rw [ew] at nw
    have er : rowW (w :: ws) = if badW ws then .none else if w = "*" then .tuple [.str "", .tuple (ws.map hostIn)] else if nameS w then .tuple [.str w, .tuple (ws.map hostIn)] else .none := rfl
    rw [er]
    generalize ws.map (fun v => PyData.bool (isN (hostIn v))) = B at *
    generalize ws.map hostIn = H at *
    cases c1 : badW ws with
    | true =>
      rw [c1] at an
      simp [sp, lc, lc2, an]
    | false =>
      rw [c1] at an
      by_cases c3 : w = "*"
      · subst c3
        simp [sp, lc, lc2, an]
      · cases c4 : nameS w with
        | false => rw [c4] at nw; simp [sp, lc, lc2, an, c3, nw]
        | true => rw [c4] at nw; simp [sp, lc, lc2, an, c3, nw]
end K72
namespace K72
open PySem PySem.Spec L2 Z PySem.NumText
open PyProof.Rows hiding St

/-! ## the lines behind the first -/
theorem rows_snoc (rs : List D) (r : D) (h : ∀ k, rowAt (r, k) = false) : rowsB (.tuple (rs ++ [r])) = false := by
  show (decide ((rs ++ [r]).length ≤ 9) && ((rs ++ [r]).zipIdx.all rowAt && riseS ((rs ++ [r]).map deN))) = false
  rw [List.zipIdx_append, List.all_append]
  have e : (([r] : List D).zipIdx (0 + rs.length)).all rowAt = false := by
    rw [List.zipIdx_cons, List.all_cons, h]; rfl
  rw [e]
  simp
theorem long_no (s : Str) (hs : List D) (h : 12 < hs.length) (k : Nat) : rowAt (.tuple [.str s, .tuple hs], k) = false := by
  have h1 : hostsB (.tuple hs) = false := by
    show (decide (hs.length ≤ 4) && _) = false
    rw [decide_eq_false (by omega)]; rfl
  have h2 : glueB (.tuple hs) = false := by
    show (decide (hs.length ≤ 12) && _) = false
    rw [decide_eq_false (by omega)]; rfl
  unfold rowAt
  dsimp only
  rw [entry_pair, glue_pair, h1, h2]
  simp
def stepN (rs : List D) (r : D) : Option (List D) := if isN r || !rowsB (.tuple (rs ++ [r])) then none else some (rs ++ [r])
theorem step_eq (rs : List D) (ws : List Str) : stepN rs (rowP ws) = stepN rs (rowW ws) := by
  cases ws with
  | nil => rfl
  | cons w ws =>
    by_cases c : 12 < ws.length
    · have e1 : rowP (w :: ws) = .none := by show (if 12 < ws.length then PyData.none else rowW (w :: ws)) = _; rw [if_pos c]
      have e2 : stepN rs (rowP (w :: ws)) = none := by rw [e1]; rfl
      rw [e2]
      have er : rowW (w :: ws) = if badW ws then .none else if w = "*" then .tuple [.str "", .tuple (ws.map hostIn)] else if nameS w then .tuple [.str w, .tuple (ws.map hostIn)] else .none := rfl
      have hl : 12 < (ws.map hostIn).length := by rw [List.length_map]; exact c
      rw [er]
      unfold stepN
      split
      · rfl
      · split
        · rw [rows_snoc rs _ (long_no _ _ hl)]; simp
        · split
          · rw [rows_snoc rs _ (long_no _ _ hl)]; simp
          · rfl
    · have e1 : rowP (w :: ws) = rowW (w :: ws) := by show (if 12 < ws.length then PyData.none else rowW (w :: ws)) = _; rw [if_neg c]
      rw [e1]
theorem fine_hostIn (w : Str) : Fine (hostIn w) := by
  rcases hostW_or (Txt.split w ".") with e | ⟨p, e, h1, h2⟩
  · unfold hostIn; rw [e]; exact fine_none
  · unfold hostIn
    rw [e]
    refine fine_tup.mpr fun x hx => ?_
    simp only [List.mem_cons, List.not_mem_nil, or_false] at hx
    have b1 := (nameS_len h1).2
    rcases hx with rfl | rfl
    · exact fine_of (by omega)
    · rcases h2 with h2 | h2
      · rw [h2]; exact fine_of (by decide)
      · have := (nameS_len h2).2; exact fine_of (by omega)
theorem fine_rowW {ws : List Str} (h : ∀ w ∈ ws, w.length ≤ 4000) : Fine (rowW ws) := by
  cases ws with
  | nil => exact fine_none
  | cons w ws =>
    have er : rowW (w :: ws) = if badW ws then .none else if w = "*" then .tuple [.str "", .tuple (ws.map hostIn)] else if nameS w then .tuple [.str w, .tuple (ws.map hostIn)] else .none := rfl
    have fh : Fine (.tuple (ws.map hostIn)) := fine_tup.mpr fun x hx => by
      obtain ⟨v, _, rfl⟩ := List.mem_map.mp hx
      exact fine_hostIn v
    rw [er]
    split
    · exact fine_none
    · split
      · refine fine_tup.mpr fun x hx => ?_
        simp only [List.mem_cons, List.not_mem_nil, or_false] at hx
        rcases hx with rfl | rfl
        · exact fine_of (by decide)
        · exact fh
      · split
        · refine fine_tup.mpr fun x hx => ?_
          simp only [List.mem_cons, List.not_mem_nil, or_false] at hx
          rcases hx with rfl | rfl
          · exact fine_of (h w (by simp))
          · exact fh
        · exact fine_none
theorem fine_rowP {ws : List Str} (h : ∀ w ∈ ws, w.length ≤ 4000) : Fine (rowP ws) := by
  cases ws with
  | nil => exact fine_none
  | cons w ws =>
    show Fine (if 12 < ws.length then PyData.none else rowW (w :: ws))
    split
    · exact fine_none
    · exact fine_rowW h
theorem fin_snoc {rs : List D} {r : D} (h : FinL rs) (g : Fine r) : Fine (.tuple (rs ++ [r])) := fine_tup.mpr fun x hx => by
  rcases List.mem_append.mp hx with hx | hx
  · exact h x hx
  · rw [List.mem_singleton.mp hx]; exact g
theorem stepN_some {rs rs' : List D} {r : D} (h : stepN rs r = some rs') : rs' = rs ++ [r] ∧ rs'.length ≤ 9 := by
  unfold stepN at h
  split at h
  · cases h
  · rename_i c
    cases h
    refine ⟨rfl, ?_⟩
    simp only [Bool.or_eq_true, Bool.not_eq_true', not_or] at c
    have hb : (decide ((rs ++ [r]).length ≤ 9) && ((rs ++ [r]).zipIdx.all rowAt && riseS ((rs ++ [r]).map deN))) = true := by
      have := c.2
      cases q : rowsB (.tuple (rs ++ [r])) with
      | true => exact q
      | false => exact absurd q this
    rw [Bool.and_eq_true, decide_eq_true_eq] at hb
    exact hb.1
abbrev words (l : Str) : List Str := Txt.split l " "
theorem words_len {l : Str} (h : l.length ≤ 4000) : ∀ w ∈ words l, w.length ≤ 4000 := fun w hw => Nat.le_trans (split_len_le (c := 32) hw) h
def optT : Option (List D) → D
  | none => .none
  | some rs => .tuple rs
theorem rowsand_run {rs : List D} {l : Str} (hf : FinL rs) (hn : rs.length ≤ 9) (h : l.length ≤ 4000) : F_rows_and.run [.tuple rs, .str l] = some (.v (optT (stepN rs (rowW (words l)))), []) := by
  rw [← step_eq]
  have rr := row_run h
  have fr := fine_rowP (words_len h)
  rw [u_rows_and, x_run _ _ _ _ rfl, b_rows_and]
  have hr := rows_any (fin_snoc hf fr)
  generalize rowP (words l) = r at *
  have ad : addD (.tuple rs) (.tuple [r]) = some (.v (.tuple (rs ++ [r]))) := by
    exact x_addT (by simp only [List.length_cons, List.length_nil]; omega)
  unfold stepN
  by_cases c1 : isN r = true
  · simp [rr, c1, optT]
  · have c1' : isN r = false := by simpa using c1
    cases c2 : rowsB (.tuple (rs ++ [r])) with
    | false => rw [c2] at hr; simp [rr, c1', ad, hr, c2, optT]
    | true => rw [c2] at hr; simp [rr, c1', ad, hr, c2, optT]
end K72
namespace K72
open PySem PySem.Spec L2 Z PySem.NumText
open PyProof.Rows hiding St

/-! ## reading -/
@[simp] theorem isN_tup (ds : List D) : isN (.tuple ds) = false := rfl
theorem depth_strs (l : List Str) : PyData.depthAll (l.map PyData.str) ≤ 1 := by
  induction l with
  | nil => exact Nat.zero_le _
  | cons p l ih =>
    rw [List.map_cons, PyData.depthAll]
    have : (PyData.str p).depth ≤ 1 := by simp [PyData.depth]
    omega
theorem okE_strs (l : List Str) : okE (.list (l.map .str)) = true := by
  have h := depth_strs l
  have h1 : (PyData.list (l.map .str)).depth ≤ 3 := by simp only [PyData.depth]; omega
  have h2 : noDict (.list (l.map .str)) = true := by show noDicts (l.map .str) = true; exact noD_str l
  unfold okE
  rw [h2, decide_eq_true (by omega)]; rfl
theorem eq_nil (ws : List Str) : eqD (.list (ws.map .str)) (.list []) = some (.v (.bool (decide (ws = [])))) := by
  unfold eqD
  rw [okE_strs, show okE (.list ([] : List D)) = true from rfl]
  cases ws with
  | nil => rfl
  | cons w ws => rfl
def goL (rs : List D) : List Str → Nat → Nat ⊕ List D
  | [], _ => .inr rs
  | l :: ls, k => match stepN rs (rowW (words l)) with
    | none => .inl k
    | some rs' => goL rs' ls (k + 1)
def encL (q : Str × Nat) : D := .tuple [.int (q.2 : Int), .str q.1]
theorem enum_str (ls : List Str) : enumD (ls.map .str) = ls.zipIdx.map encL := by
  rw [enumG, List.zipIdx_map, List.map_map]; rfl
theorem stepN_fin {rs rs' : List D} {l : Str} (hf : FinL rs) (h : l.length ≤ 4000) (e : stepN rs (rowW (words l)) = some rs') : FinL rs' ∧ rs'.length ≤ 9 := by
  obtain ⟨e1, e2⟩ := stepN_some e
  refine ⟨?_, e2⟩
  rw [e1]
  exact fine_tup.mp (fin_snoc hf (fine_rowW (words_len h)))
theorem lines_loop (o0 o1 : Option RV) : ∀ (ls : List Str) (k : Nat) (rs : List D) (o3 o4 o5 : Option RV), FinL rs → rs.length ≤ 9 → (∀ l ∈ ls, l.length ≤ 4000) →
    match goL rs ls k with
    | .inl j => ∃ ρ', forL (gTn 2 (gCons (gN [] 3) (gCons (gN [] 4) gNil))) q_read_lines_1 ((ls.zipIdx k).map encL) [o0, o1, some (.v (.tuple rs)), o3, o4, o5] = some (.rt (.v (.tuple [.none, .int ((j : Int) + 1)])), ρ')
    | .inr rs' => ∃ t3 t4 t5, forL (gTn 2 (gCons (gN [] 3) (gCons (gN [] 4) gNil))) q_read_lines_1 ((ls.zipIdx k).map encL) [o0, o1, some (.v (.tuple rs)), o3, o4, o5] = some (.nx, [o0, o1, some (.v (.tuple rs')), t3, t4, t5])
  | [], k, rs, o3, o4, o5, _, _, _ => ⟨o3, o4, o5, rfl⟩
  | l :: ls, k, rs, o3, o4, o5, hf, hn, hl => by
    have h0 := hl l List.mem_cons_self
    have ra := rowsand_run hf hn h0
    have g : gTn 2 (gCons (gN [] 3) (gCons (gN [] 4) gNil)) (encL (l, k)) [o0, o1, some (.v (.tuple rs)), o3, o4, o5] = some [o0, o1, some (.v (.tuple rs)), some (.v (.int (k : Int))), some (.v (.str l)), o5] := rfl
    rw [List.zipIdx_cons, List.map_cons]
    unfold forL goL
    rw [g, Option.bind_some]
    cases e : stepN rs (rowW (words l)) with
    | none =>
      rw [e] at ra
      dsimp only
      simp [q_read_lines_1, ra, optT]
    | some rs' =>
      rw [e] at ra
      dsimp only
      obtain ⟨hf', hn'⟩ := stepN_fin hf h0 e
      have st : q_read_lines_1 [o0, o1, some (.v (.tuple rs)), some (.v (.int (k : Int))), some (.v (.str l)), o5] = some (.nx, [o0, o1, some (.v (.tuple rs')), some (.v (.int (k : Int))), some (.v (.str l)), some (.v (.tuple rs'))]) := by
        simp [q_read_lines_1, ra, optT]
      rw [st, Option.bind_some]
      exact lines_loop o0 o1 ls (k + 1) rs' _ _ _ hf' hn' fun x hx => hl x (List.mem_cons_of_mem _ hx)
/-- what the lines say: a version, or the number of the wrong line -/
def resL : List Str → Nat ⊕ D
  | [] => .inl 0
  | l :: ls => if isN (serD l) then .inl 0 else match goL [] ls 0 with
    | .inl k => .inl (k + 1)
    | .inr rs => .inr (.tuple [serD l, .tuple rs])
def linesD : Nat ⊕ D → D
  | .inl k => .tuple [.none, .int k]
  | .inr d => .tuple [d, .none]
theorem eq_strs (a b : List Str) : PyData.eqvAll (a.map .str) (b.map .str) = decide (a = b) := by
  induction a generalizing b with
  | nil => cases b <;> simp [PyData.eqvAll]
  | cons x a ih =>
    cases b with
    | nil => simp [PyData.eqvAll]
    | cons y b =>
      rw [List.map_cons, List.map_cons, PyData.eqvAll, ih, x_eqvS]
      by_cases h1 : x = y <;> by_cases h2 : a = b <;> simp [h1, h2]
theorem readlines_run {ls : List Str} (hn : ls.length ≤ 5000) (hl : ∀ l ∈ ls, Few l) : F_read_lines.run [.list (ls.map .str)] = some (.v (linesD (resL ls)), []) := by
  rw [u_read_lines, x_run _ _ _ _ rfl, b_read_lines]
  cases ls with
  | nil => kernel_rfl
  | cons l ls =>
    have sr := serial_run (hl l List.mem_cons_self)
    have eqn := eq_nil (l :: ls)
    rw [List.map_cons, decide_eq_false (by simp)] at eqn
    have lp := lines_loop (some (.v (.list (.str l :: ls.map .str)))) (some (.v (serD l))) ls 0 [] none none none (fun x hx => by cases hx) (by simp) fun x hx => (hl x (List.mem_cons_of_mem _ hx)).1
    have en := enum_str ls
    have eu : enuD [.list (ls.map .str)] = some (enumD (ls.map .str)) := rfl
    rw [en] at eu
    have er : resL (l :: ls) = if isN (serD l) then .inl 0 else match goL [] ls 0 with
      | .inl k => .inl (k + 1)
      | .inr rs => .inr (.tuple [serD l, .tuple rs]) := rfl
    rw [er]
    generalize serD l = s at *
    by_cases c : isN s = true
    · simp [sr, c, linesD, eqn]
    · have c' : isN s = false := by simpa using c
      cases e : goL [] ls 0 with
      | inl j =>
        rw [e] at lp
        obtain ⟨ρ', lp⟩ := lp
        generalize (ls.zipIdx 0).map encL = Z at *
        simp [sr, c', eu, lp, linesD, eqn]
      | inr rs =>
        rw [e] at lp
        obtain ⟨t3, t4, t5, lp⟩ := lp
        generalize (ls.zipIdx 0).map encL = Z at *
        simp [sr, c', eu, lp, linesD, eqn]
end K72
namespace K72
open PySem PySem.Spec L2 Z PySem.NumText
open PyProof.Rows hiding St

/-! ## read_version, the law's reading -/
/-- a text that can be read: not too long, no number too long -/
structure TxtOk (t : Str) : Prop where
  len : t.length ≤ 4000
  few : ∀ l ∈ Txt.split t "\n", Few l
def lastS (ps : List Str) : Str := ps.getLast?.getD ""
def resT (ps : List Str) : Nat ⊕ D := match resL ps.dropLast with
  | .inl k => .inl k
  | .inr d => if lastS ps = "" then .inr d else .inl (ps.length - 1)
theorem cut_last (xs : List D) : cut xs none (some (-1)) = xs.dropLast := by
  rw [List.dropLast_eq_take]
  unfold cut
  have e0 : HT.sIx xs.length 0 none = 0 := rfl
  have e1 : HT.sIx xs.length xs.length (some (-1)) = xs.length - 1 := by
    unfold HT.sIx
    simp
    omega
  rw [e0, e1]
  rfl
theorem at_last {xs : List Str} (h : 1 ≤ xs.length) : atI (xs.map PyData.str) (-1) = some (.str (lastS xs)) := by
  unfold atI
  have e : ixN (xs.map PyData.str).length (-1) = some (xs.length - 1) := by
    rw [List.length_map]
    unfold ixN
    simp
    omega
  rw [e, Option.bind_some, List.getElem?_map]
  unfold lastS
  rw [List.getLast?_eq_getElem?]
  have : xs[xs.length - 1]? = some xs[xs.length - 1] := List.getElem?_eq_getElem (by omega)
  rw [this]
  rfl
theorem istext (t : Str) : F_is_text.run [.str t] = some (.v (.bool true), []) := text_any (.str t)
def excD : Nat ⊕ D → D ⊕ Exn
  | .inl k => .inr ⟨"InvalidText", "index", .int k⟩
  | .inr d => .inl d
theorem x_runX (n k : Nat) (b : SX) (ds : List D) (h : ds.length = k) : runX n k b ds = ((b (ds.map (fun d => some (.v d)) ++ List.replicate (n - k) none)).bind fun r => match r.1 with
    | .inl (.rt (.v d)) => some (.inl d)
    | .inl .nx => some (.inl .none)
    | .inr e => some (.inr e)
    | _ => none) := if_pos h
theorem read_run {t : Str} (h : TxtOk t) : FX_read_version.run [.str t] = some (excD (resT (Txt.split t "\n"))) := by
  have sp := split_run t h.len 10
  have e10 : ("\n" : Str) = ⟨#[10]⟩ := rfl
  have hn := split_le t ⟨#[10]⟩
  have hp := split_pos t ⟨#[10]⟩
  have hf := h.few
  have it := istext t
  have hl := h.len
  rw [ux_read_version, x_runX 4 1 bx_read_version [.str t] rfl, bx_read_version]
  rw [e10] at hf ⊢
  generalize Txt.split t ⟨#[10]⟩ = ps at *
  have rl := readlines_run (ls := ps.dropLast) (by rw [List.length_dropLast]; omega) fun l hl => hf l ((List.dropLast_sublist ps).subset hl)
  have cl := cut_last (ps.map .str)
  rw [← List.map_dropLast] at cl
  have al := at_last hp
  have ln := len_map_str ps (by omega)
  have lz : (((ps.length - 1 : Nat) : Int)) = (ps.length : Int) - 1 := by omega
  unfold resT
  generalize ps.dropLast.map PyData.str = L at *
  cases e : resL ps.dropLast with
  | inl k =>
    rw [e] at rl
    simp [sxSeq, sxIf, sxN, sxRaise, it, sp, cl, rl, linesD, excD]
  | inr d =>
    rw [e] at rl
    by_cases c : lastS ps = ""
    · simp [sxSeq, sxIf, sxN, sxRaise, it, sp, cl, rl, linesD, excD, al, c]
    · simp [sxSeq, sxIf, sxN, sxRaise, it, sp, cl, rl, linesD, excD, al, c, ln, lz]
theorem goL_shift : ∀ (ls : List Str) (rs : List D) (k : Nat), goL rs ls (k + 1) = match goL rs ls k with
    | .inl j => .inl (j + 1)
    | .inr rs' => .inr rs'
  | [], rs, k => rfl
  | l :: ls, rs, k => by
    unfold goL
    cases stepN rs (rowW (words l)) with
    | none => rfl
    | some rs' => exact goL_shift ls rs' (k + 1)
theorem lread_loop (o0 o1 o2 o4 : Option RV) : ∀ (ls : List Str) (k : Nat) (rs : List D) (o5 o6 o7 : Option RV), 1 ≤ k → FinL rs → rs.length ≤ 9 → (∀ l ∈ ls, l.length ≤ 4000) →
    match goL rs ls k with
    | .inl j => ∃ ρ', forL (gTn 2 (gCons (gN [] 5) (gCons (gN [] 6) gNil))) q_l_read_1 ((ls.zipIdx k).map encL) [o0, o1, o2, some (.o (.list rs)), o4, o5, o6, o7] = some (.rt (.v (.tuple [.str "text", .int (j : Int)])), ρ')
    | .inr rs' => ∃ t5 t6 t7, forL (gTn 2 (gCons (gN [] 5) (gCons (gN [] 6) gNil))) q_l_read_1 ((ls.zipIdx k).map encL) [o0, o1, o2, some (.o (.list rs)), o4, o5, o6, o7] = some (.nx, [o0, o1, o2, some (.o (.list rs')), o4, t5, t6, t7])
  | [], k, rs, o5, o6, o7, _, _, _, _ => ⟨o5, o6, o7, rfl⟩
  | l :: ls, k, rs, o5, o6, o7, hk, hf, hn, hl => by
    have h0 := hl l List.mem_cons_self
    have rr := lrow_run h0
    have fr := fine_rowW (words_len h0)
    have ar := lrows_any (fin_snoc hf fr)
    have g : gTn 2 (gCons (gN [] 5) (gCons (gN [] 6) gNil)) (encL (l, k)) [o0, o1, o2, some (.o (.list rs)), o4, o5, o6, o7] = some [o0, o1, o2, some (.o (.list rs)), o4, some (.v (.int (k : Int))), some (.v (.str l)), o7] := rfl
    have k0 : ¬ (k : Int) = 0 := by omega
    have k0' : ¬ k = 0 := by omega
    have ad : addD (.list rs) (.list [rowW (words l)]) = some (.o (.list (rs ++ [rowW (words l)]))) := x_addL (by simp only [List.length_cons, List.length_nil]; omega)
    rw [List.zipIdx_cons, List.map_cons]
    unfold forL goL
    rw [g, Option.bind_some]
    cases e : stepN rs (rowW (words l)) with
    | none =>
      dsimp only
      unfold stepN at e
      generalize rowW (words l) = r at *
      by_cases c1 : isN r = true
      · simp [q_l_read_1, k0, k0', rr, c1]
      · have c1' : isN r = false := by simpa using c1
        rw [c1'] at e
        have c2 : rowsB (.tuple (rs ++ [r])) = false := by
          cases q : rowsB (.tuple (rs ++ [r])) with
          | false => rfl
          | true => rw [q] at e; cases e
        rw [c2] at ar
        simp [q_l_read_1, k0, k0', rr, c1', ad, ar]
    | some rs' =>
      dsimp only
      obtain ⟨hf', hn'⟩ := stepN_fin hf h0 e
      have st : ∃ t7, q_l_read_1 [o0, o1, o2, some (.o (.list rs)), o4, some (.v (.int (k : Int))), some (.v (.str l)), o7] = some (.nx, [o0, o1, o2, some (.o (.list rs')), o4, some (.v (.int (k : Int))), some (.v (.str l)), t7]) := by
        have e2 := (stepN_some e).1
        unfold stepN at e
        generalize rowW (words l) = r at *
        have c1 : isN r = false := by
          cases q : isN r with
          | false => rfl
          | true => rw [q] at e; cases e
        rw [c1] at e
        have c2 : rowsB (.tuple (rs ++ [r])) = true := by
          cases q : rowsB (.tuple (rs ++ [r])) with
          | true => rfl
          | false => rw [q] at e; cases e
        rw [c2] at ar
        refine ⟨some (.v r), ?_⟩
        rw [e2]
        have sz : rs.length < 16777216 := by omega
        simp [q_l_read_1, k0, k0', rr, c1, ad, ar, sz]
      obtain ⟨t7, st⟩ := st
      rw [st, Option.bind_some]
      exact lread_loop o0 o1 o2 o4 ls (k + 1) rs' _ _ _ (by omega) hf' hn' fun x hx => hl x (List.mem_cons_of_mem _ hx)
theorem forL_nil (g : SG) (b : SS) (ρ : Rho) : forL g b [] ρ = some (.nx, ρ) := rfl
theorem forL_cons (g : SG) (b : SS) (d : D) (ds : List D) (ρ : Rho) : forL g b (d :: ds) ρ = (g d ρ).bind fun ρ1 => (b ρ1).bind fun s => match s.1 with
    | .nx => forL g b ds s.2
    | .ct => forL g b ds s.2
    | .bk => some (.nx, s.2)
    | .rt v => some (.rt v, s.2) := rfl
theorem first_loop (o0 o1 o2 : Option RV) (l : Str) (ls : List Str) (hf : Few l) (hl : ∀ l ∈ ls, l.length ≤ 4000) :
    match resL (l :: ls) with
    | .inl j => ∃ ρ', forL (gTn 2 (gCons (gN [] 5) (gCons (gN [] 6) gNil))) q_l_read_1 ((l :: ls).zipIdx.map encL) [o0, o1, o2, some (.o (.list [])), some (.v (.int 0)), none, none, none] = some (.rt (.v (.tuple [.str "text", .int (j : Int)])), ρ')
    | .inr d => ∃ rs t5 t6 t7, d = .tuple [serD l, .tuple rs] ∧ forL (gTn 2 (gCons (gN [] 5) (gCons (gN [] 6) gNil))) q_l_read_1 ((l :: ls).zipIdx.map encL) [o0, o1, o2, some (.o (.list [])), some (.v (.int 0)), none, none, none] = some (.nx, [o0, o1, o2, some (.o (.list rs)), some (.v (serD l)), t5, t6, t7]) := by
  have sr := lserial_run hf
  have lp := lread_loop o0 o1 o2 (some (.v (serD l))) ls 1 [] (some (.v (.int 0))) (some (.v (.str l))) none (by omega) (fun x hx => by cases hx) (by simp) hl
  have gs := goL_shift ls [] 0
  have er : resL (l :: ls) = if isN (serD l) then .inl 0 else match goL [] ls 0 with
    | .inl k => .inl (k + 1)
    | .inr rs => .inr (.tuple [serD l, .tuple rs]) := rfl
  have g : gTn 2 (gCons (gN [] 5) (gCons (gN [] 6) gNil)) (encL (l, 0)) [o0, o1, o2, some (.o (.list [])), some (.v (.int 0)), none, none, none] = some [o0, o1, o2, some (.o (.list [])), some (.v (.int 0)), some (.v (.int 0)), some (.v (.str l)), none] := rfl
  rw [er, List.zipIdx_cons, List.map_cons, forL_cons, g, Option.bind_some]
  rw [show (0 : Nat) + 1 = 1 from rfl] at gs ⊢
  generalize serD l = s at *
  cases c : isN s with
  | true =>
    have st : ∃ ρ', q_l_read_1 [o0, o1, o2, some (.o (.list [])), some (.v (.int 0)), some (.v (.int 0)), some (.v (.str l)), none] = some (.rt (.v (.tuple [.str "text", .int 0])), ρ') := ⟨[o0, o1, o2, some (.o (.list [])), some (.v s), some (.v (.int 0)), some (.v (.str l)), none], by simp [q_l_read_1, sr, c]⟩
    obtain ⟨ρ', st⟩ := st
    rw [st]
    exact ⟨ρ', rfl⟩
  | false =>
    have st : q_l_read_1 [o0, o1, o2, some (.o (.list [])), some (.v (.int 0)), some (.v (.int 0)), some (.v (.str l)), none] = some (.nx, [o0, o1, o2, some (.o (.list [])), some (.v s), some (.v (.int 0)), some (.v (.str l)), none]) := by simp [q_l_read_1, sr, c]
    rw [st]
    cases e : goL [] ls 0 with
    | inl j =>
      rw [e] at gs
      dsimp only at gs
      rw [gs] at lp
      exact lp
    | inr rs =>
      rw [e] at gs
      dsimp only at gs
      rw [gs] at lp
      obtain ⟨t5, t6, t7, lp⟩ := lp
      exact ⟨rs, t5, t6, t7, rfl, lp⟩
def toldD : Nat ⊕ D → D
  | .inl k => .tuple [.str "text", .int k]
  | .inr d => .tuple [.str "told", d]
theorem lread_run {t : Str} (h : TxtOk t) : F_l_read.run [.str t] = some (.v (toldD (resT (Txt.split t "\n"))), []) := by
  have sp := split_run t h.len 10
  have e10 : ("\n" : Str) = ⟨#[10]⟩ := rfl
  have hn := split_le t ⟨#[10]⟩
  have hp := split_pos t ⟨#[10]⟩
  have hf := h.few
  have hl := h.len
  rw [u_l_read, x_run _ _ _ _ rfl, b_l_read]
  rw [e10] at hf ⊢
  generalize Txt.split t ⟨#[10]⟩ = ps at *
  have cl := cut_last (ps.map .str)
  rw [← List.map_dropLast] at cl
  have al : atI (ps.map PyData.str) ((ps.length : Int) - 1) = some (.str (lastS ps)) := by
    have : (ps.length : Int) - 1 = ((ps.length - 1 : Nat) : Int) := by omega
    rw [this, atI_of, List.getElem?_map]
    unfold lastS
    rw [List.getLast?_eq_getElem?]
    have : ps[ps.length - 1]? = some ps[ps.length - 1] := List.getElem?_eq_getElem (by omega)
    rw [this]
    rfl
  have hd : ∀ l ∈ ps.dropLast, Few l := fun l hl => hf l ((List.dropLast_sublist ps).subset hl)
  have ll : (ps.dropLast).length = ps.length - 1 := List.length_dropLast
  have lz : (((ps.length - 1 : Nat) : Int)) = (ps.length : Int) - 1 := by omega
  have ln2 := len_map_str ps.dropLast (by omega)
  rw [ll, lz] at ln2
  have eu : enuD [.list (ps.dropLast.map .str)] = some (ps.dropLast.zipIdx.map encL) := by
    rw [← enum_str]; rfl
  have eqn := eq_nil ps.dropLast
  unfold resT
  have lst : ∀ q, lastS ps = q → True := fun _ _ => True.intro
  generalize hpl : (ps.length : Int) - 1 = pl at *
  cases q : ps.dropLast with
  | nil =>
    rw [q] at cl eu ll eqn ln2
    simp at ll
    have p0 : pl = 0 := by omega
    have : resL [] = .inl 0 := rfl
    rw [this]
    rw [decide_eq_true rfl] at eqn
    have eqn : eqD (.list ([] : List D)) (.list []) = some (.v (.bool true)) := eqn
    simp at cl eu
    subst p0
    generalize hm : ps.map PyData.str = A at *
    have la : (A.length : Int) - 1 = 0 := by rw [← hm, List.length_map]; exact hpl
    by_cases c : lastS ps = ""
    · simp [sp, cl, eu, la, al, toldD, c, eqn, forL_nil]
    · simp [sp, cl, eu, la, al, toldD, c, eqn, forL_nil]
  | cons l ls =>
    rw [q] at cl eu hd eqn ln2
    rw [decide_eq_false (by simp)] at eqn
    have lp := first_loop (some (.v (.str t))) (some (.o (.list (ps.map .str)))) (some (.v (.list ((l :: ls).map .str)))) l ls (hd l (by simp)) fun x hx => (hd x (by simp [hx])).1
    have la : ((ps.map PyData.str).length : Int) - 1 = pl := by rw [List.length_map]; exact hpl
    generalize (l :: ls).map PyData.str = L at *
    generalize ps.map PyData.str = A at *
    generalize (l :: ls).zipIdx.map encL = Z at *
    have la2 : ((ps.length - 1 : Nat) : Int) = pl := by rw [lz]
    cases e : resL (l :: ls) with
    | inl j =>
      rw [e] at lp
      obtain ⟨ρ', lp⟩ := lp
      simp [sp, cl, eu, lp, toldD]
    | inr d =>
      rw [e] at lp
      obtain ⟨rs, t5, t6, t7, ed, lp⟩ := lp
      by_cases c : lastS ps = ""
      · simp [sp, cl, eu, lp, toldD, la, al, c, eqn, ed]
      · simp [sp, cl, eu, lp, toldD, la, al, c, eqn, ln2, la2]
end K72
namespace K72
open PySem PySem.Spec L2 Z PySem.NumText
open PyProof.Rows hiding St

/-! ## the law asks -/
theorem asked_run {t : Str} (h : TxtOk t) (way : Int) : F_l_asked.run [.str t, .int way] = some (.v (toldD (resT (Txt.split t "\n"))), []) := by
  have rr := read_run h
  rw [u_l_asked, x_run _ _ _ _ rfl, b_l_asked]
  cases e : resT (Txt.split t "\n") with
  | inl k =>
    rw [e] at rr
    have bt : ∃ ρ', bt_l_asked [some (.v (.str t)), some (.v (.int way)), none] = some (.inr ⟨"InvalidText", "index", .int k⟩, ρ') ∧ 2 < ρ'.length := by
      by_cases c : way = 0
      · exact ⟨[some (.v (.str t)), some (.v (.int way)), none], by simp [bt_l_asked, sxSeq, sxRet, xTup2, xIf, xCall, xCallK, rr, excD, c, tvs], by simp⟩
      · exact ⟨[some (.v (.str t)), some (.v (.int way)), none], by simp [bt_l_asked, sxSeq, sxRet, xTup2, xIf, xCall, xCallK, permL, rr, excD, c, tvs], by simp⟩
    obtain ⟨ρ', b1, b2⟩ := bt
    have st : sTry "InvalidText" "index" (.str "text") 2 bt_l_asked [some (.v (.str t)), some (.v (.int way)), none] = some (.rt (.v (.tuple [.str "text", .int k])), ρ'.set 2 none) := by
      unfold sTry
      rw [b1, Option.bind_some]
      dsimp only
      rw [if_pos ⟨rfl, rfl, b2⟩]
    simp [st, toldD]
  | inr d =>
    rw [e] at rr
    have bt : ∃ ρ', bt_l_asked [some (.v (.str t)), some (.v (.int way)), none] = some (.inl (.rt (.v (.tuple [.str "told", d]))), ρ') := by
      by_cases c : way = 0
      · exact ⟨[some (.v (.str t)), some (.v (.int way)), none], by simp [bt_l_asked, sxSeq, sxRet, xTup2, xIf, xCall, xCallK, rr, excD, c, tvs]⟩
      · exact ⟨[some (.v (.str t)), some (.v (.int way)), none], by simp [bt_l_asked, sxSeq, sxRet, xTup2, xIf, xCall, xCallK, permL, rr, excD, c, tvs]⟩
    obtain ⟨ρ', b1⟩ := bt
    have st : sTry "InvalidText" "index" (.str "text") 2 bt_l_asked [some (.v (.str t)), some (.v (.int way)), none] = some (.rt (.v (.tuple [.str "told", d])), ρ') := by
      unfold sTry
      rw [b1, Option.bind_some]
    simp [st, toldD]
end K72
namespace K72
open PySem PySem.Spec L2 Z PySem.NumText
open PyProof.Rows hiding St

/-! ## the same twice -/
@[simp] theorem isN_bool (b : Bool) : isN (.bool b) = false := rfl
@[simp] theorem isN_str (b : Str) : isN (.str b) = false := rfl
@[simp] theorem isN_list (b : List D) : isN (.list b) = false := rfl
def okS : Nat → D → Bool
  | _, .none => true
  | _, .bool _ => true
  | _, .int _ => true
  | _, .str _ => true
  | n + 1, .tuple ds => decide (ds.length ≤ 4000) && ds.all (okS n)
  | n + 1, .list ds => decide (ds.length ≤ 4000) && ds.all (okS n)
  | _, _ => false
theorem same_lc (me : FnS) (hm : me.mask = [false, false]) (x : D) {ds : List D} (hx : x = .tuple ds ∨ x = .list ds) (hl : ds.length ≤ 4000) (ih : ∀ d ∈ ds, me.run [d, d] = some (.v (.bool true), [])) :
    lcL [2] (gN [] 2) bYes (q_l_same_1 me) (Z.upTo 0 ds.length) [some (.v x), some (.v x), none] [] = some ((List.range ds.length).map (fun _ => .bool true), [some (.v x), some (.v x), none]) := by
  rw [upTo_range]
  refine lcL_enc (fun i : Nat => .int (i : Int)) (fun _ => .bool true) (by rw [List.length_range]; omega) fun i hi => ?_
  have hi := List.mem_range.mp hi
  have e := ih ds[i] (List.getElem_mem hi)
  have ea : atI ds (i : Int) = some ds[i] := by rw [atI_of, List.getElem?_eq_getElem hi]
  refine ⟨[some (.v x), some (.v x), some (.v (.int (i : Int)))], _, .v (.bool true), [some (.v x), some (.v x), some (.v (.int (i : Int)))], rfl, rfl, ?_, rfl, rfl⟩
  generalize ds[i] = y at *
  rcases hx with rfl | rfl <;> simp [q_l_same_1, ea, e, hm]
theorem rng_m' {m : Nat} (h : m ≤ 4000) : rng1 [.int (m : Int)] = some (Z.upTo 0 m) := x_rng1 (j := (m : Int)) (by omega) (by omega)
theorem same_all (n : Nat) : allD [.list ((List.range n).map fun _ => .bool true)] = some (.v (.bool true)) := by
  have := allB (fun _ : Nat => true) (List.range n)
  rw [this]
  congr 3
  simp
theorem same_refl : ∀ (n : Nat) (d : D), okS n d = true → R_l_same (n + 1) [d, d] = some (.v (.bool true), [])
  | n, .none, _ => by show runF _ _ _ _ = _; rw [x_run _ _ _ _ rfl, b_l_same]; simp
  | n, .bool b, _ => by show runF _ _ _ _ = _; rw [x_run _ _ _ _ rfl, b_l_same]; simp
  | n, .int i, _ => by show runF _ _ _ _ = _; rw [x_run _ _ _ _ rfl, b_l_same]; simp
  | n, .str s, _ => by show runF _ _ _ _ = _; rw [x_run _ _ _ _ rfl, b_l_same]; simp
  | 0, .tuple ds, h => by cases h
  | 0, .list ds, h => by cases h
  | n, .dict ds, h => by cases n <;> cases h
  | n + 1, .tuple ds, h => by
    have h : (decide (ds.length ≤ 4000) && ds.all (okS n)) = true := h
    rw [Bool.and_eq_true, decide_eq_true_eq] at h
    have lc := same_lc ⟨[false, false], R_l_same (n + 1)⟩ rfl (.tuple ds) (.inl rfl) h.1 fun d hd => same_refl n d (List.all_eq_true.mp h.2 d hd)
    have al := same_all ds.length
    have rg := rng_m' h.1
    show runF _ _ _ _ = _
    rw [x_run _ _ _ _ rfl, b_l_same]
    generalize (List.range ds.length).map (fun _ => PyData.bool true) = A at *
    generalize Z.upTo 0 ds.length = B at *
    simp [lc, al, rg]
  | n + 1, .list ds, h => by
    have h : (decide (ds.length ≤ 4000) && ds.all (okS n)) = true := h
    rw [Bool.and_eq_true, decide_eq_true_eq] at h
    have lc := same_lc ⟨[false, false], R_l_same (n + 1)⟩ rfl (.list ds) (.inr rfl) h.1 fun d hd => same_refl n d (List.all_eq_true.mp h.2 d hd)
    have al := same_all ds.length
    have rg := rng_m' h.1
    show runF _ _ _ _ = _
    rw [x_run _ _ _ _ rfl, b_l_same]
    generalize (List.range ds.length).map (fun _ => PyData.bool true) = A at *
    generalize Z.upTo 0 ds.length = B at *
    simp [lc, al, rg]
theorem okS_host (n : Nat) (w : Str) : okS (n + 1) (hostIn w) = true := by
  rcases hostW_or (Txt.split w ".") with e | ⟨p, e, _⟩
  · unfold hostIn; rw [e]; cases n <;> rfl
  · unfold hostIn; rw [e]
    show (decide (2 ≤ 4000) && ([PyData.str p.1, .str p.2] : List D).all (okS n)) = true
    cases n <;> rfl
theorem okS_rowW {ws : List Str} (h : ws.length ≤ 4000) : okS 4 (rowW ws) = true := by
  cases ws with
  | nil => rfl
  | cons w ws =>
    have er : rowW (w :: ws) = if badW ws then .none else if w = "*" then .tuple [.str "", .tuple (ws.map hostIn)] else if nameS w then .tuple [.str w, .tuple (ws.map hostIn)] else .none := rfl
    have hh : okS 3 (.tuple (ws.map hostIn)) = true := by
      show (decide ((ws.map hostIn).length ≤ 4000) && (ws.map hostIn).all (okS 2)) = true
      rw [List.length_map, decide_eq_true (by simp at h; omega), Bool.true_and]
      refine List.all_eq_true.mpr fun x hx => ?_
      obtain ⟨v, _, rfl⟩ := List.mem_map.mp hx
      exact okS_host 1 v
    have hs : ∀ s : Str, okS 4 (.tuple [.str s, .tuple (ws.map hostIn)]) = true := fun s => by
      show (decide (2 ≤ 4000) && (okS 3 (.str s) && (okS 3 (.tuple (ws.map hostIn)) && true))) = true
      rw [hh]; rfl
    rw [er]
    split
    · rfl
    · split
      · exact hs _
      · split
        · exact hs _
        · rfl
theorem goL_ok : ∀ (ls : List Str) (rs : List D) (k : Nat) (rs' : List D), rs.all (okS 4) = true → rs.length ≤ 9 → (∀ l ∈ ls, (words l).length ≤ 4000) → goL rs ls k = .inr rs' → rs'.all (okS 4) = true ∧ rs'.length ≤ 9
  | [], rs, k, rs', h1, h2, _, e => by cases e; exact ⟨h1, h2⟩
  | l :: ls, rs, k, rs', h1, h2, hl, e => by
    unfold goL at e
    cases q : stepN rs (rowW (words l)) with
    | none => rw [q] at e; cases e
    | some r2 =>
      rw [q] at e
      obtain ⟨e2, e3⟩ := stepN_some q
      refine goL_ok ls r2 (k + 1) rs' ?_ e3 (fun x hx => hl x (List.mem_cons_of_mem _ hx)) e
      rw [e2, List.all_append, h1, List.all_cons, okS_rowW (hl l List.mem_cons_self)]
      rfl
theorem okS_told {t : Str} (h : TxtOk t) (hw : t.length ≤ 3990) : okS 7 (toldD (resT (Txt.split t "\n"))) = true := by
  have hlen : ∀ l ∈ Txt.split t "\n", (words l).length ≤ 4000 := fun l hl => by
    have h1 := split_le l " "
    have h2 : l.length ≤ t.length := split_len_le (c := 10) hl
    show (Txt.split l " ").length ≤ 4000
    omega
  generalize Txt.split t "\n" = ps at *
  unfold resT
  have hd : ∀ l ∈ ps.dropLast, (words l).length ≤ 4000 := fun l hl => hlen l ((List.dropLast_sublist ps).subset hl)
  cases q : ps.dropLast with
  | nil => rfl
  | cons l ls =>
    rw [q] at hd
    have er : resL (l :: ls) = if isN (serD l) then .inl 0 else match goL [] ls 0 with
      | .inl k => .inl (k + 1)
      | .inr rs => .inr (.tuple [serD l, .tuple rs]) := rfl
    rw [er]
    have sd : okS 5 (serD l) = true := by
      unfold serD serW
      split
      · split <;> rfl
      · rfl
    generalize serD l = s at *
    cases isN s with
    | true => rfl
    | false =>
      cases e : goL [] ls 0 with
      | inl j => rfl
      | inr rs =>
        obtain ⟨g1, g2⟩ := goL_ok ls [] 0 rs rfl (by simp) (fun x hx => hd x (List.mem_cons_of_mem _ hx)) e
        have hr : okS 5 (.tuple rs) = true := by
          show (decide (rs.length ≤ 4000) && rs.all (okS 4)) = true
          rw [g1, decide_eq_true (by omega)]; rfl
        have hv : okS 6 (.tuple [s, .tuple rs]) = true := by
          show (decide (2 ≤ 4000) && (okS 5 s && (okS 5 (.tuple rs) && true))) = true
          rw [sd, hr]; rfl
        show okS 7 (toldD (if lastS ps = "" then .inr (.tuple [s, .tuple rs]) else .inl (ps.length - 1))) = true
        by_cases c : lastS ps = ""
        · rw [if_pos c]
          show (decide (2 ≤ 4000) && (okS 6 (.str "told") && (okS 6 (.tuple [s, .tuple rs]) && true))) = true
          rw [hv]; rfl
        · rw [if_neg c]; rfl
theorem told_run {d : D} (hd : Well d) {t : Str} (h : TxtOk t) (hw : t.length ≤ 3990) : ∃ d', F_l_is_told.run [d, .str t] = some (.v (.bool true), [d']) ∧ Well d' := by
  obtain ⟨r, d', h1, _, _, h4⟩ := take_well (m := 2) hd (by omega) (by omega)
  refine ⟨d', ?_, h4⟩
  have a := asked_run h r
  have l := lread_run h
  have s := same_refl 7 _ (okS_told h hw)
  have s : F_l_same.run [toldD (resT (Txt.split t "\n")), toldD (resT (Txt.split t "\n"))] = some (.v (.bool true), []) := s
  rw [u_l_is_told, x_run _ _ _ _ rfl, b_l_is_told]
  generalize toldD (resT (Txt.split t "\n")) = x at *
  simp [h1, a, l, s]
end K72
namespace K72
open PySem PySem.Spec L2 Z PySem.NumText
open PyProof.Rows hiding St

/-! ## small texts: their length, how many figures they have -/
def isDg (c : Nat) : Bool := decide (48 ≤ c) && decide (c ≤ 57)
abbrev nd (s : Str) : Nat := (chs s).countP isDg
structure Sm (L N : Nat) (s : Str) : Prop where
  len : s.length ≤ L
  dig : nd s ≤ N
theorem Sm.mono {L N L' N' : Nat} {s : Str} (h : Sm L N s) (h1 : L ≤ L') (h2 : N ≤ N') : Sm L' N' s := ⟨Nat.le_trans h.len h1, Nat.le_trans h.dig h2⟩
theorem Sm.sub {L N : Nat} {s t : Str} (h : Sm L N t) (q : (chs s).Sublist (chs t)) : Sm L N s :=
  ⟨by have := q.length_le; rw [chs_len, chs_len] at this; exact Nat.le_trans this h.len, Nat.le_trans (q.countP_le) h.dig⟩
theorem Sm.app {L N L' N' : Nat} {s t : Str} (h : Sm L N s) (g : Sm L' N' t) : Sm (L + L') (N + N') (s ++ t) := by
  refine ⟨?_, ?_⟩
  · rw [← chs_len, chs_app, List.length_append, chs_len, chs_len]; exact Nat.add_le_add h.len g.len
  · unfold nd
    rw [chs_app, List.countP_append]; exact Nat.add_le_add h.dig g.dig
theorem txtOk_of {t : Str} (h : Sm 3990 600 t) : TxtOk t := by
  refine ⟨by have := h.len; omega, fun l hl => ⟨?_, fun w hw hd => ?_⟩⟩
  · have : l.length ≤ t.length := split_len_le (c := 10) hl
    have := h.len
    omega
  · have s1 : (chs l).Sublist (chs t) := split_sub (c := 10) hl
    have s2 : (chs w).Sublist (chs l) := split_sub (c := 32) hw
    have s3 := (s2.trans s1).countP_le (p := isDg)
    have e : (chs w).countP isDg = (chs w).length := List.countP_eq_length.mpr fun c hc => by
      have := digs_all hd c hc
      unfold isDg
      rw [decide_eq_true this.1, decide_eq_true this.2]; rfl
    rw [e, chs_len] at s3
    have hd2 : (chs t).countP isDg ≤ 600 := h.dig
    omega
theorem cutS_sub (z : Str) (lo hi : Option Int) : (chs (cutS z lo hi)).Sublist (chs z) := by
  have e : chs (cutS z lo hi) = ((chs z).drop (HT.sIx z.length 0 lo)).take (HT.sIx z.length z.length hi - HT.sIx z.length 0 lo) := by unfold cutS; show (_ : Array Nat).toList = _; rw [List.toList_toArray]
  rw [e]
  exact (List.take_sublist _ _).trans (List.drop_sublist _ _)
theorem sl_str {z : Str} (h : z.length ≤ 4000) (lo hi : Option Int) : slD (.str z) lo hi = some (.v (.str (cutS z lo hi))) := by
  show (if szb z.length then _ else _) = _
  rw [show szb z.length = true from decide_eq_true (by omega)]; rfl
theorem add_str {a b : Str} (h : a.length + b.length ≤ 10000) : addD (.str a) (.str b) = some (.v (.str (a ++ b))) := x_addS (by omega)
/-- parts together -/
structure SmL (L N : Nat) (ps : List Str) : Prop where
  len : (ps.map (·.length)).sum + ps.length ≤ L
  dig : (ps.map nd).sum ≤ N
theorem sum_sub {f : Str → Nat} {a b : List Str} (h : a.Sublist b) : (a.map f).sum ≤ (b.map f).sum := by
  induction h with
  | slnil => exact Nat.le_refl _
  | cons x _ ih => simp only [List.map_cons, List.sum_cons]; omega
  | cons_cons x _ ih => simp only [List.map_cons, List.sum_cons]; omega
theorem SmL.sub {L N : Nat} {a b : List Str} (h : SmL L N b) (q : a.Sublist b) : SmL L N a :=
  ⟨by have h1 := sum_sub (f := (·.length)) q; have h2 := q.length_le; have := h.len; omega, Nat.le_trans (sum_sub q) h.dig⟩
theorem SmL.app {L N L' N' : Nat} {a b : List Str} (h : SmL L N a) (g : SmL L' N' b) : SmL (L + L') (N + N') (a ++ b) := by
  refine ⟨?_, ?_⟩
  · rw [List.map_append, List.sum_append, List.length_append]
    have := h.len
    have := g.len
    omega
  · rw [List.map_append, List.sum_append]; exact Nat.add_le_add h.dig g.dig
theorem SmL.rev {L N : Nat} {a : List Str} (h : SmL L N a) : SmL L N a.reverse := by
  refine ⟨?_, ?_⟩
  · rw [List.map_reverse, List.sum_reverse, List.length_reverse]; exact h.len
  · rw [List.map_reverse, List.sum_reverse]; exact h.dig
theorem smL_split {L N : Nat} {t : Str} (h : Sm L N t) : SmL (L + 1) N (Txt.split t "\n") := by
  have e := StrLaws.join_split t ⟨#[10]⟩
  have w := split_weight t ⟨#[10]⟩ (Nat.le_refl 1)
  refine ⟨?_, ?_⟩
  · have := h.len
    show ((Txt.split t ⟨#[10]⟩).map (·.length)).sum + (Txt.split t ⟨#[10]⟩).length ≤ _
    omega
  · have g := glueN_count isDg (c := 10) rfl ((Txt.split t ⟨#[10]⟩).map chs)
    rw [← join_chs, e, List.map_map] at g
    show ((Txt.split t ⟨#[10]⟩).map nd).sum ≤ N
    have : ((Txt.split t ⟨#[10]⟩).map nd).sum = nd t := g.symm
    rw [this]; exact h.dig
theorem sm_join {L N : Nat} {ps : List Str} (h : SmL L N ps) : Sm L N (Txt.join "\n" ps) := by
  have e : chs (Txt.join "\n" ps) = glueN 10 (ps.map chs) := by rw [txt_join]; exact join_chs 10 ps
  refine ⟨?_, ?_⟩
  · rw [← chs_len, e]
    have g := glueN_len 10 (ps.map chs)
    rw [List.map_map, List.length_map] at g
    have e2 : (ps.map (List.length ∘ chs)).sum = (ps.map (·.length)).sum := by
      congr 1
      first
        | done
        | exact List.map_congr_left fun x _ => chs_len x
    rw [e2] at g
    exact Nat.le_trans g h.len
  · unfold nd
    rw [e, glueN_count isDg (c := 10) rfl, List.map_map]
    exact h.dig
theorem mstrs : ∀ ys : List Str, mstrsOf (ys.map .str) = some ys
  | [] => rfl
  | y :: ys => by
    show (mstrsOf (ys.map .str)).bind (fun l => some (y :: l)) = _
    rw [mstrs ys]; rfl
theorem join_run {L N : Nat} {ps : List Str} (h : SmL L N ps) (hL : L ≤ 10000) : mjoinD (.str "\n") [.list (ps.map .str)] = some (.v (.str (Txt.join "\n" ps))) := by
  show mjoinG "\n" (ps.map .str) = _
  unfold mjoinG
  rw [mstrs, Option.bind_some, if_pos]
  have := h.len
  have e : ("\n" : Str).length = 1 := rfl
  rw [e]
  exact decide_eq_true (by omega)
theorem cut_map (xs : List Str) (lo hi : Option Int) : ∃ ys : List Str, cut (xs.map PyData.str) lo hi = ys.map .str ∧ ys.Sublist xs := by
  unfold cut
  exact ⟨(xs.drop _).take _, by rw [List.map_take, List.map_drop], (List.take_sublist _ _).trans (List.drop_sublist _ _)⟩
theorem sign_ix {s : Str} (hs : s.length ≤ 100) {r : Int} (h0 : 0 ≤ r) (h1 : r < s.length) : ∃ c : Nat, ixD (.str s) (.int r) = some (.v (.str ⟨#[c]⟩)) := by
  obtain ⟨k, rfl⟩ := Int.eq_ofNat_of_zero_le h0
  have hk : k < s.cps.toList.length := by rw [Array.length_toList]; exact Int.ofNat_lt.mp h1
  refine ⟨s.cps.toList[k], ?_⟩
  show (if szb s.length then (atI s.cps.toList (k : Int)).map fun c => RV.v (.str ⟨#[c]⟩) else none) = _
  have e : atI s.cps.toList (k : Int) = some s.cps.toList[k] := by
    unfold atI
    rw [ixN_of, if_pos hk]
    exact List.getElem?_eq_getElem hk
  rw [show szb s.length = true from decide_eq_true (by omega), e]; rfl
theorem sm_sign (c : Nat) : Sm 1 1 ⟨#[c]⟩ := ⟨Nat.le_refl 1, by
  show ([c] : List Nat).countP isDg ≤ 1
  exact List.countP_le_length ..⟩
abbrev sgs : Str := " \n.*0a1zA-9qns"
theorem bent_run {d : D} (hd : Well d) {t : Str} (h : Sm 1975 20 t) : ∃ (t' : Str) (d' : D), F_l_bent.run [d, .str t] = some (.v (.str t'), [d']) ∧ Sm 3990 600 t' ∧ Well d' := by
  have lt := h.len
  obtain ⟨r, d1, h1, r0, r9, w1⟩ := take_well (m := 9) hd (by omega) (by omega)
  obtain ⟨a, d2, h2, a0, a1, w2⟩ := take_well (m := (t.length : Int) + 1) w1 (by omega) (by omega)
  obtain ⟨g, d3, h3, g0, g1, w3⟩ := take_well (m := 14) w2 (by omega) (by omega)
  obtain ⟨c, ec⟩ := sign_ix (s := sgs) (by decide) g0 (by show g < 14; exact g1)
  have ln := len_str (s := t) (by omega)
  have lg : lenD [.str sgs] = some (.v (.int 14)) := by kernel_rfl
  rw [u_l_bent, x_run _ _ _ _ rfl, b_l_bent]
  by_cases c1 : r < 3
  · have s1 := sl_str (z := t) (by omega) none (some a)
    have s2 := sl_str (z := t) (by omega) (some (a + r)) none
    have m1 := h.sub (cutS_sub t none (some a))
    have m2 := h.sub (cutS_sub t (some (a + r)) none)
    generalize cutS t none (some a) = x at *
    generalize cutS t (some (a + r)) none = y at *
    have ad1 := add_str (a := x) (b := ⟨#[c]⟩) (by have := m1.len; have := (sm_sign c).len; omega)
    have m3 := m1.app (sm_sign c)
    generalize x ++ (⟨#[c]⟩ : Str) = z at *
    have ad2 := add_str (a := z) (b := y) (by have := m3.len; have := m2.len; omega)
    have m4 := m3.app m2
    refine ⟨z ++ y, d3, ?_, m4.mono (by omega) (by omega), w3⟩
    simp [h1, h2, h3, ln, lg, ec, c1, s1, s2, ad1, ad2]
  · by_cases c2 : r = 3
    · subst c2
      have s1 := sl_str (z := t) (by omega) none (some a)
      have s2 := sl_str (z := t) (by omega) (some (a + 1)) none
      have m1 := h.sub (cutS_sub t none (some a))
      have m2 := h.sub (cutS_sub t (some (a + 1)) none)
      generalize cutS t none (some a) = x at *
      generalize cutS t (some (a + 1)) none = y at *
      have ad2 := add_str (a := x) (b := y) (by have := m1.len; have := m2.len; omega)
      refine ⟨x ++ y, d3, ?_, (m1.app m2).mono (by omega) (by omega), w3⟩
      simp [h1, h2, h3, ln, lg, ec, s1, s2, ad2]
    · have sp := split_run t (by omega) 10
      have pw := smL_split h
      have pn := split_le t ⟨#[10]⟩
      have pp := split_pos t ⟨#[10]⟩
      have pw : SmL 1976 20 (Txt.split t ⟨#[10]⟩) := pw
      generalize Txt.split t ⟨#[10]⟩ = ps at *
      have sq : splitD (.str t) [.str "\n"] = some (.o (.list (ps.map .str))) := sp
      have lp := len_map_str ps (by omega)
      obtain ⟨o, d4, h4, o0, o1, w4⟩ := take_well (m := (ps.length : Int)) w3 (by omega) (by omega)
      by_cases c3 : r = 4
      · subst c3
        obtain ⟨y1, e1, q1⟩ := cut_map ps none (some o)
        obtain ⟨y2, e2, q2⟩ := cut_map ps (some (o + 1)) none
        have m := (pw.sub q1).app (pw.sub q2)
        have ad : addD (.list (y1.map .str)) (.list (y2.map .str)) = some (.o (.list ((y1 ++ y2).map .str))) := by
          rw [List.map_append]
          have b1 := (pw.sub q1).len
          have b2 := (pw.sub q2).len
          exact x_addL (by rw [List.length_map, List.length_map]; omega)
        have jn := join_run m (by omega)
        have mj := sm_join m
        generalize (y1 ++ y2).map PyData.str = Y at *
        generalize Txt.join "\n" (y1 ++ y2) = z at *
        generalize ps.map PyData.str = A at *
        refine ⟨z, d4, ?_, mj.mono (by omega) (by omega), w4⟩
        simp [h1, h2, h3, h4, ln, lg, ec, sp, sq, lp, e1, e2, ad, jn]
      · by_cases c4 : r = 5
        · subst c4
          obtain ⟨y1, e1, q1⟩ := cut_map ps none (some (o + 1))
          obtain ⟨y2, e2, q2⟩ := cut_map ps (some o) none
          have m := (pw.sub q1).app (pw.sub q2)
          have ad : addD (.list (y1.map .str)) (.list (y2.map .str)) = some (.o (.list ((y1 ++ y2).map .str))) := by
            rw [List.map_append]
            have b1 := (pw.sub q1).len
            have b2 := (pw.sub q2).len
            exact x_addL (by rw [List.length_map, List.length_map]; omega)
          have jn := join_run m (by omega)
          have mj := sm_join m
          generalize (y1 ++ y2).map PyData.str = Y at *
          generalize Txt.join "\n" (y1 ++ y2) = z at *
          generalize ps.map PyData.str = A at *
          refine ⟨z, d4, ?_, mj.mono (by omega) (by omega), w4⟩
          simp [h1, h2, h3, h4, ln, lg, ec, sp, sq, lp, e1, e2, ad, jn]
        · by_cases c5 : r = 6
          · subst c5
            have jn := join_run pw.rev (by omega)
            rw [List.map_reverse] at jn
            have mj := sm_join pw.rev
            generalize Txt.join "\n" ps.reverse = z at *
            have rv : revD (.list (ps.map PyData.str)) = some (.o (.list (ps.map PyData.str).reverse)) := rfl
            generalize (ps.map PyData.str).reverse = B at *
            generalize ps.map PyData.str = A at *
            refine ⟨z, d4, ?_, mj.mono (by omega) (by omega), w4⟩
            simp [h1, h2, h3, h4, ln, lg, ec, sp, sq, lp, rv, jn]
          · by_cases c6 : r = 7
            · subst c6
              have s1 := sl_str (z := t) (by omega) none (some a)
              have m1 := h.sub (cutS_sub t none (some a))
              generalize cutS t none (some a) = x at *
              generalize ps.map PyData.str = A at *
              refine ⟨x, d4, ?_, m1.mono (by omega) (by omega), w4⟩
              simp [h1, h2, h3, h4, ln, lg, ec, sp, sq, lp, s1]
            · have r8 : r = 8 := by omega
              subst r8
              obtain ⟨x, d5, h5, hx, w5⟩ := of_well (ds := [.str "\n", .str "zz\n", .str "zzzzzzzz ns.\n", .str "*\n", .str "zz", .str "serial 1\n", .str "zz ns. ns.\n", .str "zz  ns.\n"]) w4 (by simp) (by simp)
              have hs : ∃ s : Str, x = .str s ∧ Sm 20 5 s := by
                simp only [List.mem_cons, List.not_mem_nil, or_false] at hx
                rcases hx with rfl | rfl | rfl | rfl | rfl | rfl | rfl | rfl <;> exact ⟨_, rfl, by decide, by decide⟩
              obtain ⟨s, rfl, ms⟩ := hs
              have ad := add_str (a := t) (b := s) (by have := ms.len; omega)
              generalize ps.map PyData.str = A at *
              refine ⟨t ++ s, d5, ?_, (h.app ms).mono (by omega) (by omega), w5⟩
              simp [h1, h2, h3, h4, h5, ln, lg, ec, sp, sq, lp, ad]
end K72
namespace K72
open PySem PySem.Spec L2 Z
open PyProof.Rows hiding St

/-! ## unlike things, ascending -/
section
variable {α : Type} (lt : α → α → Bool)
def mg : List α → List α → List α
  | [], two => two
  | x :: one, two => two.takeWhile (fun y => lt y x) ++ x :: mg one (two.dropWhile fun y => lt y x)
theorem mg_perm : ∀ one two : List α, (mg lt one two).Perm (one ++ two)
  | [], two => List.Perm.refl _
  | x :: one, two => by
    rw [mg]
    have ih := mg_perm one (two.dropWhile fun y => lt y x)
    have e : two.takeWhile (fun y => lt y x) ++ two.dropWhile (fun y => lt y x) = two := List.takeWhile_append_dropWhile
    have p1 : (two.takeWhile (fun y => lt y x) ++ x :: mg lt one (two.dropWhile fun y => lt y x)).Perm (x :: (two.takeWhile (fun y => lt y x) ++ mg lt one (two.dropWhile fun y => lt y x))) := List.perm_middle
    refine p1.trans ?_
    rw [List.cons_append]
    refine List.Perm.cons x ?_
    have p2 := List.Perm.append_left (two.takeWhile fun y => lt y x) ih
    refine p2.trans ?_
    have p3 : (two.takeWhile (fun y => lt y x) ++ (one ++ two.dropWhile fun y => lt y x)).Perm (one ++ (two.takeWhile (fun y => lt y x) ++ two.dropWhile fun y => lt y x)) := by
      rw [← List.append_assoc, ← List.append_assoc]
      exact List.Perm.append_right _ List.perm_append_comm
    rw [e] at p3
    exact p3
variable {lt}
theorem drop_ge (tr : ∀ {a b c}, lt a b = true → lt b c = true → lt a c = true) (tri : ∀ a b, lt a b = true ∨ a = b ∨ lt b a = true) (x : α) : ∀ two : List α, two.Pairwise (fun a b => lt a b = true) → x ∉ two → ∀ y ∈ two.dropWhile (fun y => lt y x), lt x y = true
  | [], _, _, y, h => by cases h
  | z :: two, hp, hx, y, h => by
    rw [List.dropWhile_cons] at h
    cases q : lt z x with
    | true =>
      rw [q, if_pos rfl] at h
      exact drop_ge tr tri x two (List.pairwise_cons.mp hp).2 (fun k => hx (List.mem_cons_of_mem _ k)) y h
    | false =>
      rw [q, if_neg Bool.false_ne_true] at h
      have hz : lt x z = true := by
        rcases tri z x with k | k | k
        · rw [q] at k; cases k
        · exact absurd List.mem_cons_self (k ▸ hx)
        · exact k
      rcases List.mem_cons.mp h with rfl | h
      · exact hz
      · exact tr hz ((List.pairwise_cons.mp hp).1 y h)
theorem mg_rise (tr : ∀ {a b c}, lt a b = true → lt b c = true → lt a c = true) (tri : ∀ a b, lt a b = true ∨ a = b ∨ lt b a = true) : ∀ one two : List α, one.Pairwise (fun a b => lt a b = true) → two.Pairwise (fun a b => lt a b = true) → (∀ x ∈ one, x ∉ two) → (mg lt one two).Pairwise fun a b => lt a b = true
  | [], two, _, h, _ => h
  | x :: one, two, h1, h2, hd => by
    rw [mg]
    rw [List.pairwise_cons] at h1
    have hx := hd x List.mem_cons_self
    have sub : (two.dropWhile fun y => lt y x).Sublist two := List.dropWhile_sublist _
    have ih := mg_rise tr tri one (two.dropWhile fun y => lt y x) h1.2 (h2.sublist sub) fun z hz k => hd z (List.mem_cons_of_mem _ hz) (sub.subset k)
    have big : ∀ y ∈ mg lt one (two.dropWhile fun y => lt y x), lt x y = true := fun y hy => by
      rcases List.mem_append.mp ((mg_perm lt one _).mem_iff.mp hy) with k | k
      · exact h1.1 y k
      · exact drop_ge (lt := lt) tr tri x two h2 hx y k
    have small : ∀ y ∈ two.takeWhile (fun y => lt y x), lt y x = true := fun y hy => List.all_eq_true.mp List.all_takeWhile y hy
    rw [List.pairwise_append]
    refine ⟨h2.sublist (List.takeWhile_sublist _), List.pairwise_cons.mpr ⟨big, ih⟩, fun a ha b hb => ?_⟩
    rcases List.mem_cons.mp hb with rfl | hb
    · exact small a ha
    · exact tr (small a ha) (big b hb)
end
section
variable {α : Type} {enc : α → D} {lt : α → α → Bool}
theorem rise_while (hlt : ∀ a b, ltD (enc a) (enc b) = some (.v (.bool (lt a b)))) (me : FnS) (o0 o1 o2 : Option RV) (r3 : RV) (T : List α) (h3 : r3.d = .list (T.map enc)) (x : α) : ∀ (rest : List α) (k : Nat) (F : List α) (n : Nat), T.drop k = rest → k ≤ T.length → F.length + rest.length ≤ 1000 → rest.length < n →
    whileN (q_l_rising_1 me) (q_l_rising_2 me) n [o0, o1, o2, some r3, some (.o (.list (F.map enc))), some (.v (.int (k : Int))), some (.v (enc x))] =
      some (.nx, [o0, o1, o2, some r3, some (.o (.list ((F ++ rest.takeWhile fun y => lt y x).map enc))), some (.v (.int ((k + (rest.takeWhile fun y => lt y x).length : Nat) : Int))), some (.v (enc x))])
  | [], k, F, 0, _, _, _, hn => absurd hn (by simp)
  | [], k, F, n + 1, hd, hk, _, _ => by
    have hl : T.length ≤ k := by
      have := congrArg List.length hd
      rw [List.length_drop, List.length_nil] at this
      omega
    have hl' : ¬ ((k : Int) < (T.length : Int)) := by omega
    have e : q_l_rising_1 me [o0, o1, o2, some r3, some (.o (.list (F.map enc))), some (.v (.int (k : Int))), some (.v (enc x))] = some (false, [o0, o1, o2, some r3, some (.o (.list (F.map enc))), some (.v (.int (k : Int))), some (.v (enc x))]) := by
      have hl2 : ¬ ((k : Int) < ((T.map enc).length : Int)) := by rw [List.length_map]; exact hl'
      generalize T.map enc = TT at h3 hl2
      generalize F.map enc = FF
      generalize (k : Int) = K at hl2
      (first | (simp (implicitDefEqProofs := false) [q_l_rising_1, h3, hl2]; done) | simp [q_l_rising_1, h3, hl2])
    unfold whileN
    rw [e, Option.bind_some]
    simp
  | y :: rest, k, F, 0, _, _, _, hn => absurd hn (by simp)
  | y :: rest, k, F, n + 1, hd, hk, hs, hn => by
    rw [List.length_cons] at hs hn
    have hlen : k < T.length := by
      have := congrArg List.length hd
      rw [List.length_drop, List.length_cons] at this
      omega
    have hy : T[k]? = some y := by
      have := congrArg (fun l => l[0]?) hd
      simp only [List.getElem?_drop, Nat.add_zero, List.getElem?_cons_zero] at this
      exact this
    have e1 : atI (T.map enc) (k : Int) = some (enc y) := by rw [atI_of, List.getElem?_map, hy]; rfl
    have e2 := hlt y x
    have hl2 : ((k : Int) < ((T.map enc).length : Int)) := by rw [List.length_map]; omega
    have e : q_l_rising_1 me [o0, o1, o2, some r3, some (.o (.list (F.map enc))), some (.v (.int (k : Int))), some (.v (enc x))] = some (lt y x, [o0, o1, o2, some r3, some (.o (.list (F.map enc))), some (.v (.int (k : Int))), some (.v (enc x))]) := by
      generalize T.map enc = TT at h3 hl2 e1
      generalize F.map enc = FF
      generalize (k : Int) = K at hl2 e1
      generalize lt y x = b at e2
      generalize enc y = Y at e1 e2
      generalize enc x = X at e2
      (first | (simp (implicitDefEqProofs := false) [q_l_rising_1, h3, hl2, e1, e2]; done) | simp [q_l_rising_1, h3, hl2, e1, e2])
    rw [List.takeWhile_cons]
    unfold whileN
    rw [e, Option.bind_some]
    cases q : lt y x with
    | false => simp
    | true =>
      have hf : (F.map enc).length < 16777216 := by rw [List.length_map]; omega
      have b : q_l_rising_2 me [o0, o1, o2, some r3, some (.o (.list (F.map enc))), some (.v (.int (k : Int))), some (.v (enc x))] = some (.nx, [o0, o1, o2, some r3, some (.o (.list ((F ++ [y]).map enc))), some (.v (.int ((k + 1 : Nat) : Int))), some (.v (enc x))]) := by
        rw [List.map_append, show ((k + 1 : Nat) : Int) = (k : Int) + 1 by omega, show [y].map enc = [enc y] from rfl]
        generalize T.map enc = TT at h3 hl2 e1
        generalize F.map enc = FF at hf
        generalize (k : Int) = K at hl2 e1
        generalize enc y = Y at e1 e2
        generalize enc x = X at e2
        (first | (simp (implicitDefEqProofs := false) [q_l_rising_2, h3, e1, hf]; done) | simp [q_l_rising_2, h3, e1, hf])
      have hd2 : T.drop (k + 1) = rest := by
        rw [← List.drop_drop, hd]; rfl
      have ih := rise_while hlt me o0 o1 o2 r3 T h3 x rest (k + 1) (F ++ [y]) n hd2 (by omega) (by rw [List.length_append, List.length_singleton]; omega) (by omega)
      rw [if_pos rfl]
      dsimp only
      rw [b, Option.bind_some]
      dsimp only
      rw [ih, if_pos rfl, List.append_assoc, List.singleton_append, List.length_cons, show k + 1 + (rest.takeWhile fun y => lt y x).length = k + ((rest.takeWhile fun y => lt y x).length + 1) by omega]
theorem rise_for (hlt : ∀ a b, ltD (enc a) (enc b) = some (.v (.bool (lt a b)))) (me : FnS) (o0 o1 o2 : Option RV) (r3 : RV) (T : List α) (h3 : r3.d = .list (T.map enc)) : ∀ (one rest : List α) (k : Nat) (F : List α) (o6 : Option RV), T.drop k = rest → k ≤ T.length → F.length + one.length + rest.length ≤ 1000 →
    ∃ (k' : Nat) (F' : List α) (t6 : Option RV), forL (gN [] 6) (q_l_rising_3 me) (one.map enc) [o0, o1, o2, some r3, some (.o (.list (F.map enc))), some (.v (.int (k : Int))), o6] =
      some (.nx, [o0, o1, o2, some r3, some (.o (.list (F'.map enc))), some (.v (.int (k' : Int))), t6]) ∧ k' ≤ T.length ∧ F' ++ T.drop k' = F ++ mg lt one rest
  | [], rest, k, F, o6, hd, hk, _ => ⟨k, F, o6, rfl, hk, by rw [hd]; rfl⟩
  | x :: one, rest, k, F, o6, hd, hk, hs => by
    rw [List.length_cons] at hs
    have w := rise_while hlt me o0 o1 o2 r3 T h3 x rest k F 5000000000000000000 hd hk (by omega) (by omega)
    have tw : rest.takeWhile (fun y => lt y x) ++ rest.dropWhile (fun y => lt y x) = rest := List.takeWhile_append_dropWhile
    have twl := congrArg List.length tw
    rw [List.length_append] at twl
    have rl := congrArg List.length hd
    rw [List.length_drop] at rl
    have hd2 : T.drop (k + (rest.takeWhile fun y => lt y x).length) = rest.dropWhile fun y => lt y x := by
      rw [← List.drop_drop, hd]
      conv => lhs; arg 2; rw [← tw]
      rw [List.drop_left]
    obtain ⟨k', F', t6, h, hk', hm⟩ := rise_for hlt me o0 o1 o2 r3 T h3 one (rest.dropWhile fun y => lt y x) (k + (rest.takeWhile fun y => lt y x).length) (F ++ (rest.takeWhile fun y => lt y x) ++ [x]) (some (.v (enc x))) hd2 (by omega)
      (by rw [List.length_append, List.length_append, List.length_singleton]; omega)
    refine ⟨k', F', t6, ?_, hk', by rw [hm, mg]; simp⟩
    have g : gN [] 6 (enc x) [o0, o1, o2, some r3, some (.o (.list (F.map enc))), some (.v (.int (k : Int))), o6] = some [o0, o1, o2, some r3, some (.o (.list (F.map enc))), some (.v (.int (k : Int))), some (.v (enc x))] := rfl
    have hf : ((F ++ rest.takeWhile fun y => lt y x).map enc).length < 16777216 := by rw [List.length_map, List.length_append]; omega
    have body : q_l_rising_3 me [o0, o1, o2, some r3, some (.o (.list (F.map enc))), some (.v (.int (k : Int))), some (.v (enc x))] =
        some (.nx, [o0, o1, o2, some r3, some (.o (.list ((F ++ (rest.takeWhile fun y => lt y x) ++ [x]).map enc))), some (.v (.int ((k + (rest.takeWhile fun y => lt y x).length : Nat) : Int))), some (.v (enc x))]) := by
      rw [List.map_append (l₂ := [x]), show [x].map enc = [enc x] from rfl]
      generalize (F ++ rest.takeWhile fun y => lt y x).map enc = FF at w hf
      generalize F.map enc = F0 at w
      generalize ((k + (rest.takeWhile fun y => lt y x).length : Nat) : Int) = K2 at w
      generalize (k : Int) = K at w
      generalize enc x = X at w
      (first | (simp (implicitDefEqProofs := false) [q_l_rising_3, w, hf]; done) | simp [q_l_rising_3, w, hf])
    rw [List.map_cons]
    unfold forL
    rw [g, Option.bind_some, body]
    exact h
theorem rising_gen (hlt : ∀ a b, ltD (enc a) (enc b) = some (.v (.bool (lt a b)))) (tr : ∀ {a b c}, lt a b = true → lt b c = true → lt a c = true) (tri : ∀ a b, lt a b = true ∨ a = b ∨ lt b a = true) : ∀ (d : Nat) (l : List α), l.length ≤ 2 ^ d → l.length ≤ 500 → l.Nodup →
    ∃ (rv : RV) (l' : List α), R_l_rising (d + 1) [.list (l.map enc)] = some (rv, []) ∧ rv.d = .list (l'.map enc) ∧ l'.Perm l ∧ l'.Pairwise fun a b => lt a b = true
  | d, l, hl, hb, nd => by
    have u : R_l_rising (d + 1) = runF 7 [false] (b_l_rising ⟨[false], R_l_rising d⟩) := rfl
    by_cases h2 : l.length < 2
    · refine ⟨.v (.list (l.map enc)), l, ?_, rfl, List.Perm.refl _, ?_⟩
      · have h2' : (((l.map enc).length : Nat) : Int) < 2 := by rw [List.length_map]; omega
        generalize l.map enc = L at h2'
        rw [u, x_run _ _ _ _ rfl, b_l_rising]
        (first | (simp (implicitDefEqProofs := false) [h2']; done) | simp [h2'])
      · match l, h2 with
        | [], _ => exact List.Pairwise.nil
        | [x], _ => exact List.pairwise_singleton _ _
        | _ :: _ :: _, h => exact absurd h (by simp)
    · cases d with
      | zero => have : (2 : Nat) ^ 0 = 1 := rfl; omega
      | succ d =>
        have hp : (2 : Nat) ^ (d + 1) = 2 * 2 ^ d := by rw [Nat.pow_succ]; omega
        have nd' := List.take_append_drop (l.length / 2) l ▸ nd
        rw [List.nodup_append] at nd'
        obtain ⟨r1, l1, e1, v1, p1, s1⟩ := rising_gen hlt tr tri d (l.take (l.length / 2)) (by rw [List.length_take]; omega) (by rw [List.length_take]; omega) nd'.1
        obtain ⟨r2, l2, e2, v2, p2, s2⟩ := rising_gen hlt tr tri d (l.drop (l.length / 2)) (by rw [List.length_drop]; omega) (by rw [List.length_drop]; omega) nd'.2.1
        have len1 := p1.length_eq
        have len2 := p2.length_eq
        rw [List.length_take] at len1
        rw [List.length_drop] at len2
        obtain ⟨k, F, t6, e3, hk, hm⟩ := rise_for hlt ⟨[false], R_l_rising (d + 1)⟩ (some (.v (.list (l.map enc)))) (some (.v (.int ((l.length / 2 : Nat) : Int)))) (some (.v (.list (l1.map enc)))) r2 l2 v2 l1 l2 0 [] none rfl (Nat.zero_le _) (by rw [List.length_nil]; omega)
        rw [List.nil_append] at hm
        have hmp := mg_perm lt l1 l2
        have hml := hmp.length_eq
        rw [List.length_append, ← hm, List.length_append] at hml
        have c1 : slD (.list (l.map enc)) none (some ((l.length / 2 : Nat) : Int)) = some (.o (.list ((l.take (l.length / 2)).map enc))) := by rw [x_slL, cut_take, List.map_take]
        have c2 : slD (.list (l.map enc)) (some ((l.length / 2 : Nat) : Int)) none = some (.o (.list ((l.drop (l.length / 2)).map enc))) := by rw [x_slL, cut_drop, List.map_drop]
        have c3 : slD (.list (l2.map enc)) (some (k : Int)) none = some (.o (.list ((l2.drop k).map enc))) := by rw [x_slL, cut_drop, List.map_drop]
        have c4 : addD (.list (F.map enc)) (.list ((l2.drop k).map enc)) = some (.o (.list ((mg lt l1 l2).map enc))) := by rw [← hm, List.map_append]; exact x_addL (by rw [List.length_map, List.length_map]; omega)
        have half : fdivD (.int ((l.map enc).length : Int)) (.int 2) = some (.v (.int ((l.length / 2 : Nat) : Int))) := by
          rw [List.length_map, x_div (by decide) (by decide)]
          congr 2
        have h2' : ¬ (((l.map enc).length : Nat) : Int) < 2 := by rw [List.length_map]; omega
        refine ⟨.o (.list ((mg lt l1 l2).map enc)), mg lt l1 l2, ?_, rfl, ?_, mg_rise (lt := lt) tr tri l1 l2 s1 s2 fun x h1 h2 => ?_⟩
        · rw [u, x_run _ _ _ _ rfl, b_l_rising]
          have dv1 : ∀ (rv : RV) (x : D), rv.d = x → True := fun _ _ _ => True.intro
          simp only [List.map_nil, Int.ofNat_eq_natCast, Int.natCast_zero] at e3
          generalize R_l_rising (d + 1) = RR at e1 e2 e3
          generalize (mg lt l1 l2).map enc = M at c4
          generalize (l2.drop k).map enc = L2d at c3 c4
          generalize F.map enc = FF at e3 c4
          generalize (l.take (l.length / 2)).map enc = LT at c1 e1
          generalize (l.drop (l.length / 2)).map enc = LD at c2 e2
          generalize ((l.length / 2 : Nat) : Int) = HH at c1 c2 half e3
          generalize (k : Int) = K at e3 c3
          generalize hL2 : l2.map enc = L2e at c3 v2
          generalize hL1 : l1.map enc = L1e at e3 v1
          generalize l.map enc = L at *
          cases r1 with
          | v x1 =>
            have v1 : x1 = .list L1e := v1
            subst v1
            cases r2 with
            | v x2 =>
              have v2 : x2 = .list L2e := v2
              subst v2
              (first | (simp (implicitDefEqProofs := false) [-x_div, -x_slL, -x_addL, -x_addLs, h2', half, c1, c2, e1, e2, e3, c3, c4]; done) | simp [-x_div, -x_slL, -x_addL, -x_addLs, h2', half, c1, c2, e1, e2, e3, c3, c4])
            | o x2 =>
              have v2 : x2 = .list L2e := v2
              subst v2
              (first | (simp (implicitDefEqProofs := false) [-x_div, -x_slL, -x_addL, -x_addLs, h2', half, c1, c2, e1, e2, e3, c3, c4]; done) | simp [-x_div, -x_slL, -x_addL, -x_addLs, h2', half, c1, c2, e1, e2, e3, c3, c4])
          | o x1 =>
            have v1 : x1 = .list L1e := v1
            subst v1
            cases r2 with
            | v x2 =>
              have v2 : x2 = .list L2e := v2
              subst v2
              (first | (simp (implicitDefEqProofs := false) [-x_div, -x_slL, -x_addL, -x_addLs, h2', half, c1, c2, e1, e2, e3, c3, c4]; done) | simp [-x_div, -x_slL, -x_addL, -x_addLs, h2', half, c1, c2, e1, e2, e3, c3, c4])
            | o x2 =>
              have v2 : x2 = .list L2e := v2
              subst v2
              (first | (simp (implicitDefEqProofs := false) [-x_div, -x_slL, -x_addL, -x_addLs, h2', half, c1, c2, e1, e2, e3, c3, c4]; done) | simp [-x_div, -x_slL, -x_addL, -x_addLs, h2', half, c1, c2, e1, e2, e3, c3, c4])
        · refine hmp.trans ?_
          have := List.Perm.append p1 p2
          rw [List.take_append_drop] at this
          exact this
        · exact nd'.2.2 x (p1.mem_iff.mp h1) x (p2.mem_iff.mp h2) rfl
theorem rising_run (hlt : ∀ a b, ltD (enc a) (enc b) = some (.v (.bool (lt a b)))) (tr : ∀ {a b c}, lt a b = true → lt b c = true → lt a c = true) (tri : ∀ a b, lt a b = true ∨ a = b ∨ lt b a = true) {l : List α} (hl : l.length ≤ 32) (nd : l.Nodup) :
    ∃ (rv : RV) (l' : List α), F_l_rising.run [.list (l.map enc)] = some (rv, []) ∧ rv.d = .list (l'.map enc) ∧ l'.Perm l ∧ l'.Pairwise fun a b => lt a b = true := by
  rw [u_l_rising]
  exact rising_gen hlt tr tri 5 l hl (by omega) nd
end
theorem rising_str' {l : List Str} (hl : l.length ≤ 32) (nd : l.Nodup) : ∃ (rv : RV) (l' : List Str), F_l_rising.run [.list (l.map .str)] = some (rv, []) ∧ rv.d = .list (l'.map .str) ∧ l'.Perm l ∧ l'.Pairwise fun a b => slt a b = true :=
  rising_run lt_str slt_tr slt_tri hl nd
theorem rising_host' {l : List Host} (hl : l.length ≤ 32) (nd : l.Nodup) : ∃ (rv : RV) (l' : List Host), F_l_rising.run [.list (l.map hostD)] = some (rv, []) ∧ rv.d = .list (l'.map hostD) ∧ l'.Perm l ∧ l'.Pairwise fun a b => hlt a b = true :=
  rising_run lt_host hlt_tr hlt_tri hl nd
end K72
namespace K72
open PySem PySem.Spec L2 Z
open PyProof.Rows hiding St

/-! ## right rows -/
theorem unlike_of {ps : List Host} (h : ps.Nodup) : unlikeH ps = true := by
  unfold unlikeH
  rw [List.all_eq_true]
  intro q hq
  obtain ⟨x, k⟩ := q
  have hk := List.mem_zipIdx_iff_getElem?.mp hq
  refine decide_eq_true fun hm => ?_
  obtain ⟨j, hj, e⟩ := List.mem_iff_getElem.mp hm
  rw [List.length_take] at hj
  rw [List.getElem_take] at e
  obtain ⟨hk1, hk2⟩ := List.getElem?_eq_some_iff.mp hk
  have hp := List.pairwise_iff_getElem.mp h j k (by omega) hk1 (by omega)
  exact hp (e.trans hk2.symm)
theorem riseH_cons (a b : Host) (l : List Host) : riseH (a :: b :: l) = (hlt a b && riseH (b :: l)) := by
  unfold riseH
  rw [List.drop_one, List.drop_one, List.tail_cons, List.tail_cons, List.zip_cons_cons, List.all_cons]
theorem riseH_of : ∀ {ps : List Host}, (ps.Pairwise fun a c => hlt a c = true) → riseH ps = true
  | [], _ => rfl
  | [a], _ => rfl
  | a :: b :: l, h => by
    rw [List.pairwise_cons] at h
    rw [riseH_cons, h.1 b List.mem_cons_self, riseH_of h.2]; rfl
theorem riseS_cons' (a b : Str) (l : List Str) : riseS (a :: b :: l) = (slt a b && riseS (b :: l)) := by
  unfold riseS
  rw [List.drop_one, List.drop_one, List.tail_cons, List.tail_cons, List.zip_cons_cons, List.all_cons]
theorem riseS_of : ∀ {ps : List Str}, (ps.Pairwise fun a c => slt a c = true) → riseS ps = true
  | [], _ => rfl
  | [a], _ => rfl
  | a :: b :: l, h => by
    rw [List.pairwise_cons] at h
    rw [riseS_cons', h.1 b List.mem_cons_self, riseS_of h.2]; rfl
def EntOk (e : Ent) : Prop := nameS e.1 = true ∧ e.2.length ≤ 4 ∧ (∀ p ∈ e.2, HostOk p) ∧ e.2.Nodup
def GlOk (hs : List Host) : Prop := hs.length ≤ 12 ∧ (∀ p ∈ hs, HostOk p ∧ p.2 ≠ "") ∧ hs.Pairwise fun a b => hlt a b = true
def RowOk (e : Ent) : Prop := (e.1 = "" ∧ GlOk e.2) ∨ EntOk e
structure RowsOk (l : List Ent) : Prop where
  few : l.length ≤ 9
  rows : ∀ e ∈ l, RowOk e
  rise : (l.map (·.1)).Pairwise fun a b => slt a b = true
theorem hosts_all {hs : List Host} (h : ∀ p ∈ hs, HostOk p) : (hs.map hostD).all hostB = true := by
  rw [List.all_map, List.all_eq_true]
  exact fun p hp => hostB_of (h p hp)
theorem entryB_of {e : Ent} (h : EntOk e) : entryB (entD e) = true := by
  obtain ⟨h1, h2, h3, h4⟩ := h
  show (nameS e.1 && (decide ((e.2.map hostD).length ≤ 4) && ((e.2.map hostD).all hostB && unlikeH ((e.2.map hostD).map deH)))) = true
  rw [h1, List.length_map, decide_eq_true h2, hosts_all h3, map_deH, unlike_of h4]; rfl
theorem gluerowB_of {e : Ent} (h0 : e.1 = "") (h : GlOk e.2) : glueRowB (entD e) = true := by
  obtain ⟨h2, h3, h4⟩ := h
  show (decide (e.1 = "") && (decide ((e.2.map hostD).length ≤ 12) && ((e.2.map hostD).all innerB && riseH ((e.2.map hostD).map deH)))) = true
  have hi : (e.2.map hostD).all innerB = true := by
    rw [List.all_map, List.all_eq_true]
    intro p hp
    obtain ⟨a, b⟩ := h3 p hp
    show (hostB (hostD p) && !underOut (hostD p)) = true
    rw [hostB_of a, out_host, decide_eq_false b]; rfl
  rw [decide_eq_true h0, List.length_map, decide_eq_true h2, hi, map_deH, riseH_of h4]; rfl
theorem slt_no (s : Str) : slt s "" = false := by
  refine decide_eq_false fun h => ?_
  exact absurd h (by show ¬ s.cps.toList < []; exact List.not_lt_nil _)
theorem rowsB_of {l : List Ent} (h : RowsOk l) : rowsB (.tuple (l.map entD)) = true := by
  show (decide ((l.map entD).length ≤ 9) && ((l.map entD).zipIdx.all rowAt && riseS ((l.map entD).map deN))) = true
  have e1 : (l.map entD).map deN = l.map (·.1) := by rw [List.map_map]; rfl
  rw [List.length_map, decide_eq_true h.few, e1, riseS_of h.rise, Bool.and_true, Bool.true_and, List.all_eq_true]
  intro q hq
  obtain ⟨r, i⟩ := q
  have hk := List.mem_zipIdx_iff_getElem?.mp hq
  have hk : (l.map entD)[i]? = some r := hk
  rw [List.getElem?_map] at hk
  cases g : l[i]? with
  | none => rw [g] at hk; cases hk
  | some e =>
    rw [g] at hk
    have hr : entD e = r := by injection hk
    subst hr
    obtain ⟨hi, he⟩ := List.getElem?_eq_some_iff.mp g
    unfold rowAt
    dsimp only
    rw [Bool.or_eq_true, Bool.and_eq_true, decide_eq_true_eq]
    rcases h.rows e (List.mem_of_getElem? g) with ⟨a, b⟩ | k
    · refine .inr ⟨?_, gluerowB_of a b⟩
      cases i with
      | zero => rfl
      | succ i =>
        have hp := List.pairwise_iff_getElem.mp h.rise 0 (i + 1) (by rw [List.length_map]; omega) (by rw [List.length_map]; omega) (by omega)
        rw [List.getElem_map, List.getElem_map, he, a, slt_no] at hp
        cases hp
    · exact .inl (entryB_of k)
structure Ver where
  ser : Int
  rows : List Ent
def Ver.d (v : Ver) : D := .tuple [.int v.ser, .tuple (v.rows.map entD)]
structure Ver.Ok (v : Ver) : Prop where
  s0 : 0 ≤ v.ser
  s1 : v.ser ≤ 999
  rs : RowsOk v.rows
theorem versB_of {v : Ver} (h : v.Ok) : versB v.d = true := by
  show (decide (0 ≤ v.ser) && decide (v.ser ≤ 999) && rowsB (.tuple (v.rows.map entD))) = true
  rw [decide_eq_true h.s0, decide_eq_true h.s1, rowsB_of h.rs]; rfl
/-! ## drawn names -/
def Rise (ns : List Str) : Prop := ns.Pairwise fun a b => slt a b = true
theorem names_run {d : D} {m : Nat} (hd : Well d) (hm : m ≤ 20) : ∃ (rv : RV) (ns : List Str) (d' : D), F_l_names.run [d, .int m] = some (rv, [d']) ∧ rv.d = .list (ns.map .str) ∧ ns.length = m ∧ Rise ns ∧ (∀ s ∈ ns, nameS s = true) ∧ Well d' := by
  obtain ⟨d1, us, t3, t4, t5, e1, w1, l1, n1, s1⟩ := names_loop (some (.v (.int m))) (Z.upTo 0 m) d [] none none none hd (by rw [up_len, List.length_nil]; omega) List.nodup_nil (fun s h => by cases h)
  rw [up_len, List.length_nil, Nat.zero_add] at l1
  have e0 := rng_m (m := m) (by omega)
  obtain ⟨rv, ns, e2, e3, p, r⟩ := rising_str' (l := us) (by omega) n1
  refine ⟨rv, ns, d1, ?_, e3, by rw [p.length_eq, l1], r, fun s hs => s1 s (p.mem_iff.mp hs), w1⟩
  rw [List.map_nil] at e1
  rw [u_l_names, x_run _ _ _ _ rfl, b_l_names]
  generalize us.map PyData.str = U at e1 e2
  (first | (simp (implicitDefEqProofs := false) [e0, e1, e2]; done) | simp [e0, e1, e2])
/-! ## drawn hosts -/
structure Nms (ns : List Str) : Prop where
  pos : 0 < ns.length
  few : ns.length ≤ 20
  ok : ∀ s ∈ ns, nameS s = true
theorem of_names {ns : List Str} (hn : Nms ns) {d : D} (hd : Well d) : ∃ (s : Str) (d' : D), F_l_of.run [d, .list (ns.map .str)] = some (.v (.str s), [d']) ∧ s ∈ ns ∧ Well d' := by
  obtain ⟨x, d', e, hx, w⟩ := of_wellL (ds := ns.map .str) hd (by rw [List.length_map]; exact hn.pos) (by rw [List.length_map]; have := hn.few; omega)
  obtain ⟨s, hs, rfl⟩ := List.mem_map.mp hx
  exact ⟨s, d', e, hs, w⟩
theorem lab3 : nameS "ns" = true ∧ nameS "a" = true ∧ nameS "dns" = true := by decide +kernel
theorem host_draw {ns : List Str} (hn : Nms ns) {d : D} (hd : Well d) (o2 o5 o6 : Option RV) (out : Bool) (r4 : RV) (hs : List Host) (h4 : r4.d = .list (hs.map hostD)) (hl : hs.length ≤ 100) :
    ∃ (p : Host) (d' : D) (r4' : RV), q_l_hosts_1 [some (.o d), some (.v (.list (ns.map .str))), o2, some (.v (.bool out)), some r4, o5, o6] =
      some (.nx, [some (.o d'), some (.v (.list (ns.map .str))), o2, some (.v (.bool out)), some r4', o5, some (.v (hostD p))]) ∧ r4'.d = .list ((if p ∈ hs then hs else hs ++ [p]).map hostD) ∧ Well d' ∧ HostOk p ∧ (out = false → p.2 ≠ "") := by
  obtain ⟨a, d1, e1, ha, w1⟩ := of_names hn hd
  obtain ⟨l, d2, e2, hlb, w2⟩ := of_well (ds := [.str "ns", .str "a", .str "dns", .str a]) w1 (by simp) (by simp)
  obtain ⟨lb, rfl, hlk⟩ : ∃ lb : Str, l = .str lb ∧ nameS lb = true := by
    simp only [List.mem_cons, List.not_mem_nil, or_false] at hlb
    rcases hlb with rfl | rfl | rfl | rfl
    · exact ⟨_, rfl, lab3.1⟩
    · exact ⟨_, rfl, lab3.2.1⟩
    · exact ⟨_, rfl, lab3.2.2⟩
    · exact ⟨_, rfl, hn.ok a ha⟩
  have key : ∃ (u : Str) (d3 : D), Well d3 ∧ (u = "" ∨ nameS u = true) ∧ (out = false → u ≠ "") ∧ ((out = false ∧ F_l_of.run [d2, .list (ns.map .str)] = some (.v (.str u), [d3])) ∨ (out = true ∧ u = "" ∧ F_l_take.run [d2, .int 3] = some (.v (.int 0), [d3])) ∨ (out = true ∧ ∃ (t : Int) (d4 : D), t ≠ 0 ∧ F_l_take.run [d2, .int 3] = some (.v (.int t), [d4]) ∧ F_l_of.run [d4, .list (ns.map .str)] = some (.v (.str u), [d3]))) := by
    cases out with
    | false =>
      obtain ⟨u, d3, e3, hu, w3⟩ := of_names hn w2
      exact ⟨u, d3, w3, .inr (hn.ok u hu), fun _ => nameS_ne (hn.ok u hu), .inl ⟨rfl, e3⟩⟩
    | true =>
      obtain ⟨t, d3, e3, t0, t1, w3⟩ := take_well (m := 3) w2 (by decide) (by decide)
      by_cases c : t = 0
      · subst c
        exact ⟨"", d3, w3, .inl rfl, (fun q => by cases q), .inr (.inl ⟨rfl, rfl, e3⟩)⟩
      · obtain ⟨u, d4, e4, hu, w4⟩ := of_names hn w3
        exact ⟨u, d4, w4, .inr (hn.ok u hu), (fun q => by cases q), .inr (.inr ⟨rfl, t, d3, c, e3, e4⟩)⟩
  obtain ⟨u, d3, w3, hu, ho, way⟩ := key
  have e5 := in_hostL (lb, u) hs
  have hll : (hs.map hostD).length + [hostD (lb, u)].length ≤ 16777216 := by rw [List.length_map, List.length_singleton]; omega
  have e6 : addD (.list (hs.map hostD)) (.list [hostD (lb, u)]) = some (.o (.list ((hs ++ [(lb, u)]).map hostD))) := by rw [List.map_append]; exact x_addL hll
  have hd2 : (PyData.tuple [.str lb, .str u] : D) = hostD (lb, u) := rfl
  by_cases c : (lb, u) ∈ hs
  · rw [decide_eq_true c] at e5
    refine ⟨(lb, u), d3, .v (.list (hs.map hostD)), ?_, by rw [if_pos c]; rfl, w3, ⟨hlk, hu⟩, ho⟩
    generalize (hs ++ [(lb, u)]).map hostD = HS2 at *
    generalize ns.map PyData.str = N at e1 way
    generalize hs.map hostD = HS at *
    rw [← hd2] at e5 e6 ⊢
    have two : (r4 = .v (.list HS)) ∨ (r4 = .o (.list HS)) := by cases r4 <;> first | exact .inl (congrArg RV.v h4) | exact .inr (congrArg RV.o h4)
    clear h4 hd2 ho
    rcases two with rfl | rfl <;> rcases way with ⟨rfl, e3⟩ | ⟨rfl, rfl, e3⟩ | ⟨rfl, t, d4, ht, e3, e4⟩
    · (first | (simp (implicitDefEqProofs := false) [q_l_hosts_1, e1, e2, e3, e5]; done) | simp [q_l_hosts_1, e1, e2, e3, e5])
    · (first | (simp (implicitDefEqProofs := false) [q_l_hosts_1, e1, e2, e3, e5]; done) | simp [q_l_hosts_1, e1, e2, e3, e5])
    · (first | (simp (implicitDefEqProofs := false) [q_l_hosts_1, e1, e2, e3, e4, ht, e5]; done) | simp [q_l_hosts_1, e1, e2, e3, e4, ht, e5])
    · (first | (simp (implicitDefEqProofs := false) [q_l_hosts_1, e1, e2, e3, e5]; done) | simp [q_l_hosts_1, e1, e2, e3, e5])
    · (first | (simp (implicitDefEqProofs := false) [q_l_hosts_1, e1, e2, e3, e5]; done) | simp [q_l_hosts_1, e1, e2, e3, e5])
    · (first | (simp (implicitDefEqProofs := false) [q_l_hosts_1, e1, e2, e3, e4, ht, e5]; done) | simp [q_l_hosts_1, e1, e2, e3, e4, ht, e5])
  · rw [decide_eq_false c] at e5
    refine ⟨(lb, u), d3, .o (.list ((hs ++ [(lb, u)]).map hostD)), ?_, by rw [if_neg c]; rfl, w3, ⟨hlk, hu⟩, ho⟩
    generalize (hs ++ [(lb, u)]).map hostD = HS2 at *
    generalize ns.map PyData.str = N at e1 way
    generalize hs.map hostD = HS at *
    rw [← hd2] at e5 e6 ⊢
    have two : (r4 = .v (.list HS)) ∨ (r4 = .o (.list HS)) := by cases r4 <;> first | exact .inl (congrArg RV.v h4) | exact .inr (congrArg RV.o h4)
    clear h4 hd2 ho
    rcases two with rfl | rfl <;> rcases way with ⟨rfl, e3⟩ | ⟨rfl, rfl, e3⟩ | ⟨rfl, t, d4, ht, e3, e4⟩
    · (first | (simp (implicitDefEqProofs := false) [-x_addLs, q_l_hosts_1, e1, e2, e3, e5, e6]; done) | simp [-x_addLs, q_l_hosts_1, e1, e2, e3, e5, e6])
    · (first | (simp (implicitDefEqProofs := false) [-x_addLs, q_l_hosts_1, e1, e2, e3, e5, e6]; done) | simp [-x_addLs, q_l_hosts_1, e1, e2, e3, e5, e6])
    · (first | (simp (implicitDefEqProofs := false) [-x_addLs, q_l_hosts_1, e1, e2, e3, e4, ht, e5, e6]; done) | simp [-x_addLs, q_l_hosts_1, e1, e2, e3, e4, ht, e5, e6])
    · (first | (simp (implicitDefEqProofs := false) [-x_addLs, q_l_hosts_1, e1, e2, e3, e5, e6]; done) | simp [-x_addLs, q_l_hosts_1, e1, e2, e3, e5, e6])
    · (first | (simp (implicitDefEqProofs := false) [-x_addLs, q_l_hosts_1, e1, e2, e3, e5, e6]; done) | simp [-x_addLs, q_l_hosts_1, e1, e2, e3, e5, e6])
    · (first | (simp (implicitDefEqProofs := false) [-x_addLs, q_l_hosts_1, e1, e2, e3, e4, ht, e5, e6]; done) | simp [-x_addLs, q_l_hosts_1, e1, e2, e3, e4, ht, e5, e6])
theorem hosts_loop {ns : List Str} (hn : Nms ns) (o2 : Option RV) (out : Bool) : ∀ (ds : List D) (d : D) (r4 : RV) (hs : List Host) (o5 o6 : Option RV), Well d → r4.d = .list (hs.map hostD) → hs.length + ds.length ≤ 100 → hs.Nodup → (∀ p ∈ hs, HostOk p ∧ (out = false → p.2 ≠ "")) →
    ∃ (d' : D) (r4' : RV) (hs' : List Host) (t5 t6 : Option RV), forL (gN [0] 5) q_l_hosts_1 ds [some (.o d), some (.v (.list (ns.map .str))), o2, some (.v (.bool out)), some r4, o5, o6] =
      some (.nx, [some (.o d'), some (.v (.list (ns.map .str))), o2, some (.v (.bool out)), some r4', t5, t6]) ∧ r4'.d = .list (hs'.map hostD) ∧ Well d' ∧ hs'.length ≤ hs.length + ds.length ∧ hs'.Nodup ∧ ∀ p ∈ hs', HostOk p ∧ (out = false → p.2 ≠ "")
  | [], d, r4, hs, o5, o6, hd, h4, _, nd, ok => ⟨d, r4, hs, o5, o6, rfl, h4, hd, by simp, nd, ok⟩
  | e :: ds, d, r4, hs, o5, o6, hd, h4, hl, nd, ok => by
    rw [List.length_cons] at hl
    obtain ⟨p, d1, r5, e1, h5, w1, p1, p2⟩ := host_draw hn hd o2 (some (.v e)) o6 out r4 hs h4 (by omega)
    have l2 : (if p ∈ hs then hs else hs ++ [p]).length ≤ hs.length + 1 := by
      split
      · omega
      · rw [List.length_append, List.length_singleton]; omega
    have nd2 : (if p ∈ hs then hs else hs ++ [p]).Nodup := by
      split
      · exact nd
      · rename_i hp
        exact List.nodup_append.mpr ⟨nd, by simp, fun x hx y hy q => hp (by rw [List.mem_singleton.mp hy] at q; rw [← q]; exact hx)⟩
    have ok2 : ∀ q ∈ (if p ∈ hs then hs else hs ++ [p]), HostOk q ∧ (out = false → q.2 ≠ "") := by
      intro q hq
      split at hq
      · exact ok q hq
      · rcases List.mem_append.mp hq with k | k
        · exact ok q k
        · rw [List.mem_singleton.mp k]; exact ⟨p1, p2⟩
    obtain ⟨d', r4', hs', t5, t6, h, a, b, c, f, g⟩ := hosts_loop hn o2 out ds d1 r5 _ (some (.v e)) (some (.v (hostD p))) w1 h5 (by omega) nd2 ok2
    refine ⟨d', r4', hs', t5, t6, ?_, a, b, by rw [List.length_cons]; omega, f, g⟩
    have gg : gN [0] 5 e [some (.o d), some (.v (.list (ns.map .str))), o2, some (.v (.bool out)), some r4, o5, o6] = some [some (.o d), some (.v (.list (ns.map .str))), o2, some (.v (.bool out)), some r4, some (.v e), o6] := rfl
    unfold forL
    rw [gg, Option.bind_some, e1]
    exact h
theorem hosts_run {ns : List Str} (hn : Nms ns) {d : D} (hd : Well d) {most : Int} (m0 : 0 ≤ most) (m1 : most ≤ 50) (out : Bool) : ∃ (hs : List Host) (d' : D), F_l_hosts.run [d, .list (ns.map .str), .int most, .bool out] = some (.v (.tuple (hs.map hostD)), [d']) ∧ Well d' ∧ (hs.length : Int) ≤ most ∧ hs.Nodup ∧ ∀ p ∈ hs, HostOk p ∧ (out = false → p.2 ≠ "") := by
  obtain ⟨t, d1, e1, t0, t1, w1⟩ := take_well (m := most + 1) hd (by omega) (by omega)
  have e2 := rng_i t0 (by omega)
  obtain ⟨d', r4, hs, t5, t6, e3, h4, w2, hl, nd, ok⟩ := hosts_loop hn (some (.v (.int most))) out (Z.upTo 0 t.toNat) d1 (.o (.list [])) [] none none w1 rfl (by rw [up_len, List.length_nil]; omega) List.nodup_nil (fun p h => by cases h)
  rw [up_len, List.length_nil] at hl
  refine ⟨hs, d', ?_, w2, by omega, nd, ok⟩
  rw [u_l_hosts, x_run _ _ _ _ rfl, b_l_hosts]
  generalize ns.map PyData.str = N at e3
  generalize Z.upTo 0 t.toNat = U at e2 e3
  generalize hs.map hostD = HS at h4
  cases r4 with
  | v x =>
    have h4 : x = .list HS := h4
    subst h4
    (first | (simp (implicitDefEqProofs := false) [e1, e2, e3]; done) | simp [e1, e2, e3])
  | o x =>
    have h4 : x = .list HS := h4
    subst h4
    (first | (simp (implicitDefEqProofs := false) [e1, e2, e3]; done) | simp [e1, e2, e3])
theorem ent_of {s : Str} {hs : List Host} (h : nameS s = true) (hl : (hs.length : Int) ≤ 4) (nd : hs.Nodup) (ok : ∀ p ∈ hs, HostOk p ∧ ((true : Bool) = false → p.2 ≠ "")) : EntOk (s, hs) := ⟨h, by show hs.length ≤ 4; omega, fun p hp => (ok p hp).1, nd⟩
/-- hosts with addresses, in their order -/
theorem glue_run {ns : List Str} (hn : Nms ns) {d : D} (hd : Well d) : ∃ (hs gl : List Host) (d' : D) (rv : RV), F_l_hosts.run [d, .list (ns.map .str), .int 12, .bool false] = some (.v (.tuple (hs.map hostD)), [d']) ∧ F_l_rising.run [.list (hs.map hostD)] = some (rv, []) ∧ rv.d = .list (gl.map hostD) ∧ GlOk gl ∧ Well d' := by
  obtain ⟨hs, d', e1, w, hl, nd, ok⟩ := hosts_run hn hd (most := 12) (by decide) (by decide) false
  obtain ⟨rv, gl, e2, e3, p, r⟩ := rising_host' (l := hs) (by omega) nd
  exact ⟨hs, gl, d', rv, e1, e2, e3, ⟨by rw [p.length_eq]; omega, fun x hx => let ⟨a, b⟩ := ok x (p.mem_iff.mp hx); ⟨a, b rfl⟩, r⟩, w⟩
end K72
namespace K72
open PySem PySem.Spec L2 Z
open PyProof.Rows hiding St

/-! ## drawn versions -/
theorem pick_lc (o1 o2 o3 : Option RV) : ∀ (rest acc : List Str) (d : D), Well d → acc.length + rest.length ≤ 1000 →
    ∃ (d' : D) (pick : List Str), lcL [5] (gN [] 5) q_l_version_2 q_l_version_3 (rest.map .str) [some (.o d), o1, o2, o3, none, none] (acc.map .str) = some ((acc ++ pick).map .str, [some (.o d'), o1, o2, o3, none, none]) ∧ Well d' ∧ pick.Sublist rest
  | [], acc, d, hd, _ => ⟨d, [], by rw [List.append_nil]; rfl, hd, List.Sublist.slnil⟩
  | s :: rest, acc, d, hd, hl => by
    rw [List.length_cons] at hl
    obtain ⟨t, d1, e1, _, _, w1⟩ := take_well (m := 3) hd (by decide) (by decide)
    have g : gN [] 5 (.str s) [some (.o d), o1, o2, o3, none, none] = some [some (.o d), o1, o2, o3, none, some (.v (.str s))] := rfl
    have tt : q_l_version_2 [some (.o d), o1, o2, o3, none, some (.v (.str s))] = some (decide (0 < t), [some (.o d1), o1, o2, o3, none, some (.v (.str s))]) := by (first | (simp (implicitDefEqProofs := false) [q_l_version_2, e1]; done) | simp [q_l_version_2, e1])
    have wp : wipeR [some (.o d1), o1, o2, o3, none, some (.v (.str s))] [5] = [some (.o d1), o1, o2, o3, none, none] := rfl
    have f : q_l_version_3 [some (.o d1), o1, o2, o3, none, some (.v (.str s))] = some (.v (.str s), [some (.o d1), o1, o2, o3, none, some (.v (.str s))]) := by (first | (simp (implicitDefEqProofs := false) [q_l_version_3]; done) | simp [q_l_version_3])
    rw [List.map_cons]
    unfold lcL
    rw [g, Option.bind_some, tt, Option.bind_some]
    by_cases c : 0 < t
    · rw [decide_eq_true c]
      simp only [if_true, f, Option.bind_some, wp]
      rw [if_pos (decide_eq_true (show (acc.map PyData.str).length < 16777216 by rw [List.length_map]; omega))]
      obtain ⟨d', pick, h, k, q⟩ := pick_lc o1 o2 o3 rest (acc ++ [s]) d1 w1 (by rw [List.length_append, List.length_singleton]; omega)
      refine ⟨d', s :: pick, ?_, k, q.cons₂ s⟩
      rw [List.append_assoc] at h
      rw [show acc ++ s :: pick = acc ++ ([s] ++ pick) from rfl, ← h, List.map_append]
      rfl
    · rw [decide_eq_false c]
      simp only [Bool.false_eq_true, if_false, wp]
      obtain ⟨d', pick, h, k, q⟩ := pick_lc o1 o2 o3 rest acc d1 w1 (by omega)
      exact ⟨d', pick, h, k, q.cons s⟩
theorem rows_loop' {ns : List Str} (hn : Nms ns) (o2 o4 : Option RV) : ∀ (some' : List Str) (d : D) (rows : List Ent) (o5 : Option RV), Well d → (∀ s ∈ some', nameS s = true) → rows.length + some'.length ≤ 100 →
    ∃ (d' : D) (more : List Ent) (t5 : Option RV), forL (gN [0] 5) q_l_version_1 (some'.map .str) [some (.o d), some (.v (.list (ns.map .str))), o2, some (.o (.list (rows.map entD))), o4, o5] =
      some (.nx, [some (.o d'), some (.v (.list (ns.map .str))), o2, some (.o (.list ((rows ++ more).map entD))), o4, t5]) ∧ Well d' ∧ more.map (·.1) = some' ∧ ∀ e ∈ more, EntOk e
  | [], d, rows, o5, hd, _, _ => ⟨d, [], o5, by rw [List.append_nil]; rfl, hd, rfl, fun e h => by cases h⟩
  | s :: some', d, rows, o5, hd, hs, hl => by
    rw [List.length_cons] at hl
    obtain ⟨hs', d1, e1, w1, l1, nd, ok⟩ := hosts_run hn hd (most := 4) (by decide) (by decide) true
    have ns1 := hs s List.mem_cons_self
    obtain ⟨d', more, t5, h, a, b, c⟩ := rows_loop' hn o2 o4 some' d1 (rows ++ [(s, hs')]) (some (.v (.str s))) w1 (fun x hx => hs x (List.mem_cons_of_mem _ hx)) (by rw [List.length_append, List.length_singleton]; omega)
    refine ⟨d', (s, hs') :: more, t5, ?_, a, by rw [List.map_cons, b], fun e he => ?_⟩
    · have g : gN [0] 5 (.str s) [some (.o d), some (.v (.list (ns.map .str))), o2, some (.o (.list (rows.map entD))), o4, o5] = some [some (.o d), some (.v (.list (ns.map .str))), o2, some (.o (.list (rows.map entD))), o4, some (.v (.str s))] := rfl
      have hr : (rows.map entD).length < 16777216 := by rw [List.length_map]; omega
      have body : q_l_version_1 [some (.o d), some (.v (.list (ns.map .str))), o2, some (.o (.list (rows.map entD))), o4, some (.v (.str s))] = some (.nx, [some (.o d1), some (.v (.list (ns.map .str))), o2, some (.o (.list ((rows ++ [(s, hs')]).map entD))), o4, some (.v (.str s))]) := by
        rw [List.map_append, show [(s, hs')].map entD = [.tuple [.str s, .tuple (hs'.map hostD)]] from rfl]
        generalize rows.map entD = R at hr
        generalize ns.map PyData.str = N at e1
        generalize hs'.map hostD = HS at e1
        (first | (simp (implicitDefEqProofs := false) [q_l_version_1, e1, hr]; done) | simp [q_l_version_1, e1, hr])
      rw [List.map_cons]
      unfold forL
      rw [g, Option.bind_some, body]
      rw [show rows ++ (s, hs') :: more = rows ++ [(s, hs')] ++ more by simp]
      exact h
    · rcases List.mem_cons.mp he with rfl | he
      · exact ent_of ns1 l1 nd ok
      · exact c e he
theorem ser5 {d : D} (hd : Well d) : ∃ (s : Int) (d1 d2 : D), (∃ t : Int, F_l_take.run [d, .int 1000] = some (.v (.int t), [d1]) ∧ F_l_of.run [d1, .tuple [.int 0, .int 1, .int 998, .int 999, .int t]] = some (.v (.int s), [d2])) ∧ 0 ≤ s ∧ s ≤ 999 ∧ Well d2 := by
  obtain ⟨t, d1, e1, t0, t1, w1⟩ := take_well (m := 1000) hd (by decide) (by decide)
  obtain ⟨x, d2, e2, hx, w2⟩ := of_well (ds := [.int 0, .int 1, .int 998, .int 999, .int t]) w1 (by simp) (by simp)
  obtain ⟨s, rfl, s0, s1⟩ : ∃ s : Int, x = .int s ∧ 0 ≤ s ∧ s ≤ 999 := by
    simp only [List.mem_cons, List.not_mem_nil, or_false] at hx
    rcases hx with rfl | rfl | rfl | rfl | rfl <;> exact ⟨_, rfl, by omega, by omega⟩
  exact ⟨s, d1, d2, ⟨t, e1, e2⟩, s0, s1, w2⟩
theorem rowsOk_of {gl es : List Ent} (hg : gl = [] ∨ ∃ hs, gl = [(("" : Str), hs)] ∧ GlOk hs) (he : ∀ e ∈ es, EntOk e) (hr : (es.map (·.1)).Pairwise fun a b => slt a b = true) (hl : (gl ++ es).length ≤ 9) : RowsOk (gl ++ es) := by
  refine ⟨hl, fun e h => ?_, ?_⟩
  · rcases List.mem_append.mp h with h | h
    · rcases hg with rfl | ⟨hs, rfl, ok⟩
      · cases h
      · rw [List.mem_singleton.mp h]; exact .inl ⟨rfl, ok⟩
    · exact .inr (he e h)
  · rcases hg with rfl | ⟨hs, rfl, ok⟩
    · exact hr
    · rw [List.map_append]
      refine List.pairwise_cons.mpr ⟨fun s h => ?_, hr⟩
      obtain ⟨e, h1, rfl⟩ := List.mem_map.mp h
      have h2 := (he e h1).1
      have h3 := (nameS_len h2).1
      refine decide_eq_true ?_
      show ([] : List Nat) < e.1.cps.toList
      cases q : e.1.cps.toList with
      | nil =>
        have : e.1.cps.toList.length = 0 := by rw [q]; rfl
        rw [Array.length_toList] at this
        have h4 : e.1.cps.size = e.1.length := rfl
        omega
      | cons a l => exact List.nil_lt_cons a l
theorem version_run {ns : List Str} (hn : Nms ns) (hr : Rise ns) {d : D} (hd : Well d) : ∃ (v : Ver) (d' : D), F_l_version.run [d, .list (ns.map .str), .int 9] = some (.v v.d, [d']) ∧ v.Ok ∧ Well d' := by
  obtain ⟨t, d1, e1, t0, t1, w1⟩ := take_well (m := 3) hd (by decide) (by decide)
  have rest : ∀ (d2 : D) (gl : List Ent), Well d2 → (gl = [] ∨ ∃ hs, gl = [(("" : Str), hs)] ∧ GlOk hs) → ∃ (v : Ver) (d' : D) (ρ : Rho), (sSeq (sSet [0] 4 (eLc [5] (iSeq (eVar 1)) (gN [] 5) q_l_version_2 q_l_version_3))
    (sSeq (sFor (iSeq (eSl (oSl 4) iNo (iSome (eOp2 subD (oSl 2) (oTv (eB lenD (osCons (oSl 3) osNil))))))) (gN [0] 5) q_l_version_1)
    (sSeq (sRet (eTup (osCons (oTv (eCall F_l_of (aSl 0 (aTv (eTup (osCons (oTv (eC (.int 0))) (osCons (oTv (eC (.int 1))) (osCons (oTv (eC (.int 998))) (osCons (oTv (eC (.int 999))) (osCons (oTv (eCall F_l_take (aSl 0 (aTv (eC (.int 1000)) aNil)))) osNil)))))) aNil)))) (osCons (oTv (eB tupleD (osCons (oSl 3) osNil))) osNil))))
    sNil))) [some (.o d2), some (.v (.list (ns.map .str))), some (.v (.int 9)), some (.o (.list (gl.map entD))), none, none] = some (.rt (.v v.d), some (.o d') :: ρ) ∧ v.Ok ∧ Well d' := by
    intro d2 gl w2 hg
    have gl1 : gl.length ≤ 1 := by rcases hg with rfl | ⟨_, rfl, _⟩ <;> simp
    obtain ⟨d3, pick, e3, w3, sub⟩ := pick_lc (some (.v (.list (ns.map .str)))) (some (.v (.int 9))) (some (.o (.list (gl.map entD)))) ns [] d2 w2 (by rw [List.length_nil]; have := hn.few; omega)
    rw [List.map_nil, List.nil_append] at e3
    have hpk : ∀ s ∈ pick.take (9 - gl.length), nameS s = true := fun s hs => hn.ok s (sub.subset (List.mem_of_mem_take hs))
    have c1 : slD (.list (pick.map .str)) none (some ((9 : Int) - ((gl.map entD).length : Nat))) = some (.o (.list ((pick.take (9 - gl.length)).map .str))) := by
      rw [List.length_map, show (9 : Int) - (gl.length : Nat) = ((9 - gl.length : Nat) : Int) by omega, x_slL, cut_take, List.map_take]
    obtain ⟨d4, more, t5, e4, w4, hm, he⟩ := rows_loop' hn (some (.v (.int 9))) (some (.o (.list (pick.map .str)))) (pick.take (9 - gl.length)) d3 gl none w3 hpk (by rw [List.length_take]; omega)
    obtain ⟨s, d5, d6, ⟨u, e5, e6⟩, s0, s1, w6⟩ := ser5 w4
    have hml : more.length ≤ 9 - gl.length := by
      have := congrArg List.length hm
      rw [List.length_map, List.length_take] at this
      omega
    refine ⟨⟨s, gl ++ more⟩, d6, [some (.v (.list (ns.map .str))), some (.v (.int 9)), some (.o (.list ((gl ++ more).map entD))), some (.o (.list (pick.map .str))), t5], ?_, ⟨s0, s1, rowsOk_of hg he ?_ (by rw [List.length_append]; omega)⟩, w6⟩
    · have vd : Ver.d ⟨s, gl ++ more⟩ = .tuple [.int s, .tuple ((gl ++ more).map entD)] := rfl
      rw [vd]
      generalize (gl ++ more).map entD = GM at e4
      generalize gl.map entD = G at e3 c1 e4
      generalize (pick.take (9 - gl.length)).map PyData.str = PT at c1 e4
      generalize pick.map PyData.str = P at e3 c1 e4
      generalize ns.map PyData.str = N at e3 e4
      (first | (simp (implicitDefEqProofs := false) [-x_slL, e3, c1, e4, e5, e6]; done) | simp [-x_slL, e3, c1, e4, e5, e6])
    · rw [hm]
      exact (hr.sublist sub).sublist (List.take_sublist _ _)
  by_cases c : t = 0
  · obtain ⟨hs, gl, d2, rv, f1, f2, f3, f4, w2⟩ := glue_run hn w1
    obtain ⟨v, d', ρ, e2, vo, w3⟩ := rest d2 [(("" : Str), gl)] w2 (.inr ⟨gl, rfl, f4⟩)
    refine ⟨v, d', ?_, vo, w3⟩
    rw [u_l_version, x_run _ _ _ _ rfl, b_l_version]
    rw [show [(("" : Str), gl)].map entD = [.tuple [.str "", .tuple (gl.map hostD)]] from rfl] at e2
    generalize gl.map hostD = GL at f3 e2
    generalize hs.map hostD = HS at f1 f2
    generalize ns.map PyData.str = N at f1 e2
    have f3' : tupleD [rv.d] = some (.v (.tuple GL)) := by rw [f3]; rfl
    simp only [x_sSeq, Option.bind_assoc] at e2 ⊢
    simp at e2
    (first | (simp (implicitDefEqProofs := false) [e1, c, f1, f2, f3', e2]; done) | simp [e1, c, f1, f2, f3', e2])
  · obtain ⟨v, d', ρ, e2, vo, w3⟩ := rest d1 [] w1 (.inl rfl)
    refine ⟨v, d', ?_, vo, w3⟩
    rw [u_l_version, x_run _ _ _ _ rfl, b_l_version]
    rw [List.map_nil] at e2
    generalize ns.map PyData.str = N at e2
    simp at e2
    (first | (simp (implicitDefEqProofs := false) [e1, c, e2]; done) | simp [e1, c, e2])
end K72
namespace K72
open PySem PySem.Spec L2 Z PySem.NumText
open PyProof.Rows hiding St

/-! ## a version's text -/
def hostT (p : Host) : Str := p.1 ++ "." ++ p.2
def headT (s : Str) : Str := if s = "" then "*" else s
def rowT (e : Ent) : Str := Txt.join " " (headT e.1 :: e.2.map hostT)
def serT (v : Ver) : Str := "serial " ++ (toString v.ser : String)
def linesT (v : Ver) : List Str := serT v :: v.rows.map rowT
def verT (v : Ver) : Str := Txt.join "" ((linesT v).map fun l => l ++ "\n")
theorem abc_let {c : Nat} (h : signIn c abc = true) : 97 ≤ c ∧ c ≤ 122 := by
  have e : abc.cps.toList = [97, 98, 99, 100, 101, 102, 103, 104, 105, 106, 107, 108, 109, 110, 111, 112, 113, 114, 115, 116, 117, 118, 119, 120, 121, 122] := by decide
  unfold signIn at h
  have h2 : c ∈ abc.cps.toList := by
    first
      | exact of_decide_eq_true h
      | simpa using h
  rw [e] at h2
  simp only [List.mem_cons, List.not_mem_nil, or_false] at h2
  omega
theorem name_let {s : Str} (h : nameS s = true) : ∀ c ∈ chs s, 97 ≤ c ∧ c ≤ 122 := fun c hc => by
  unfold nameS at h
  simp only [Bool.and_eq_true] at h
  exact abc_let (List.all_eq_true.mp h.2 c hc)
theorem chs_hostT (p : Host) : chs (hostT p) = chs p.1 ++ (46 :: chs p.2) := by
  unfold hostT
  rw [chs_app, chs_app]
  show (chs p.1 ++ [46]) ++ chs p.2 = _
  rw [List.append_assoc]; rfl
theorem under_let {p : Host} (h : HostOk p) : ∀ c ∈ chs p.2, 97 ≤ c ∧ c ≤ 122 := fun c hc => by
  rcases h.2 with e | e
  · rw [e] at hc; cases hc
  · exact name_let e c hc
theorem nd0 {l : List Nat} (h : ∀ c ∈ l, ¬ (48 ≤ c ∧ c ≤ 57)) : l.countP isDg = 0 := List.countP_eq_zero.mpr fun c hc q => by
  unfold isDg at q
  rw [Bool.and_eq_true, decide_eq_true_eq, decide_eq_true_eq] at q
  exact h c hc q
theorem host_signs {p : Host} (h : HostOk p) : ∀ c ∈ chs (hostT p), c = 46 ∨ (97 ≤ c ∧ c ≤ 122) := fun c hc => by
  rw [chs_hostT] at hc
  rcases List.mem_append.mp hc with hc | hc
  · exact .inr (name_let h.1 c hc)
  · rcases List.mem_cons.mp hc with hc | hc
    · exact .inl hc
    · exact .inr (under_let h c hc)
theorem under_len {p : Host} (h : HostOk p) : p.2.length ≤ 8 := by
  rcases h.2 with e | e
  · rw [e]; decide
  · exact (nameS_len e).2
theorem host_len {p : Host} (h : HostOk p) : (hostT p).length ≤ 17 := by
  rw [← chs_len, chs_hostT, List.length_append, List.length_cons, chs_len, chs_len]
  have h1 := (nameS_len h.1).2
  have h2 := under_len h
  omega
theorem row_hosts {e : Ent} (h : RowOk e) : (∀ p ∈ e.2, HostOk p) ∧ e.2.length ≤ 12 ∧ (headT e.1).length + 18 * e.2.length ≤ 217 ∧ (e.1 = "" ∨ nameS e.1 = true) := by
  rcases h with ⟨h1, h2, h3, _⟩ | ⟨h1, h2, h3, _⟩
  · refine ⟨fun p hp => (h3 p hp).1, h2, ?_, .inl h1⟩
    unfold headT
    rw [if_pos h1]
    have : ("*" : Str).length = 1 := rfl
    omega
  · refine ⟨h3, by omega, ?_, .inr h1⟩
    unfold headT
    rw [if_neg (nameS_ne h1)]
    have := (nameS_len h1).2
    omega
theorem head_signs {s : Str} (h : s = "" ∨ nameS s = true) : ∀ c ∈ chs (headT s), c = 42 ∨ (97 ≤ c ∧ c ≤ 122) := fun c hc => by
  unfold headT at hc
  rcases h with h | h
  · rw [if_pos h] at hc
    have e : chs ("*" : Str) = [42] := rfl
    rw [e] at hc
    exact .inl (List.mem_singleton.mp hc)
  · rw [if_neg (nameS_ne h)] at hc
    exact .inr (name_let h c hc)
abbrev wordsT (e : Ent) : List Str := headT e.1 :: e.2.map hostT
theorem words_signs {e : Ent} (h : RowOk e) : ∀ w ∈ wordsT e, ∀ c ∈ chs w, c = 42 ∨ c = 46 ∨ (97 ≤ c ∧ c ≤ 122) := fun w hw c hc => by
  obtain ⟨h1, _, _, h4⟩ := row_hosts h
  rcases List.mem_cons.mp hw with rfl | hw
  · exact (head_signs h4 c hc).elim .inl fun q => .inr (.inr q)
  · obtain ⟨p, hp, rfl⟩ := List.mem_map.mp hw
    exact .inr (host_signs (h1 p hp) c hc)
theorem rowT_chs (e : Ent) : chs (rowT e) = glueN 32 ((wordsT e).map chs) := by
  unfold rowT
  rw [txt_join]; exact join_chs 32 _
theorem glueN_mem {c x : Nat} : ∀ {ps : List (List Nat)}, x ∈ glueN c ps → x = c ∨ ∃ p ∈ ps, x ∈ p
  | [], h => by cases h
  | [p], h => .inr ⟨p, List.mem_cons_self, h⟩
  | p :: q :: r, h => by
    have h : x ∈ p ++ c :: glueN c (q :: r) := h
    rcases List.mem_append.mp h with h | h
    · exact .inr ⟨p, List.mem_cons_self, h⟩
    · rcases List.mem_cons.mp h with h | h
      · exact .inl h
      · rcases glueN_mem h with h | ⟨y, hy, hx⟩
        · exact .inl h
        · exact .inr ⟨y, List.mem_cons_of_mem _ hy, hx⟩
theorem rowT_signs {e : Ent} (h : RowOk e) : ∀ c ∈ chs (rowT e), c = 32 ∨ c = 42 ∨ c = 46 ∨ (97 ≤ c ∧ c ≤ 122) := fun c hc => by
  rw [rowT_chs] at hc
  rcases glueN_mem hc with hc | ⟨p, hp, hc⟩
  · exact .inl hc
  · obtain ⟨w, hw, rfl⟩ := List.mem_map.mp hp
    exact .inr (words_signs h w hw c hc)
theorem sum_hosts : ∀ {hs : List Host}, (∀ p ∈ hs, HostOk p) → ((hs.map hostT).map (·.length)).sum ≤ 17 * hs.length
  | [], _ => Nat.le_refl _
  | p :: hs, h => by
    have h1 := host_len (h p List.mem_cons_self)
    have h2 := sum_hosts (hs := hs) fun q hq => h q (List.mem_cons_of_mem _ hq)
    simp only [List.map_cons, List.sum_cons, List.length_cons]
    omega
theorem rowT_len {e : Ent} (h : RowOk e) : (rowT e).length ≤ 217 := by
  obtain ⟨h1, h2, h3, _⟩ := row_hosts h
  have s := sum_hosts h1
  rw [← chs_len, rowT_chs]
  have key : ∀ (c : Nat) (p : List Nat) (ps : List (List Nat)), (glueN c (p :: ps)).length = p.length + (ps.map List.length).sum + ps.length := by
    intro c p ps
    induction ps generalizing p with
    | nil => rfl
    | cons q r ih =>
      show (p ++ c :: glueN c (q :: r)).length = _
      rw [List.length_append, List.length_cons, ih]
      simp only [List.map_cons, List.sum_cons, List.length_cons]
      omega
  rw [List.map_cons, key, chs_len, List.map_map, List.length_map, List.length_map]
  have e2 : ((e.2.map hostT).map (List.length ∘ chs)).sum = ((e.2.map hostT).map (·.length)).sum := by
    congr 1
  rw [e2]
  omega
end K72
namespace K72
open PySem PySem.Spec L2 Z PySem.NumText
open PyProof.Rows hiding St

/-! ## a version's text is read back -/
theorem split_host {p : Host} (h : HostOk p) : Txt.split (hostT p) "." = [p.1, p.2] := by
  apply map_chs_inj
  have e := split_chs (hostT p) 46
  have e2 : (Txt.split (hostT p) ".").map chs = cutN 46 (chs (hostT p)) := e
  rw [e2, chs_hostT, cutN_app, cutN_free]
  · rfl
  · intro q; have := under_let h 46 q; omega
  · intro q; have := name_let h.1 46 q; omega
theorem hostIn_host {p : Host} (h : HostOk p) : hostIn (hostT p) = hostD p := by
  unfold hostIn
  rw [split_host h]
  show (if (nameS p.1 && (decide (p.2 = "") || nameS p.2)) = true then hostD (p.1, p.2) else PyData.none) = _
  rw [if_pos]
  rw [Bool.and_eq_true, Bool.or_eq_true, decide_eq_true_eq]
  exact h
theorem split_row {e : Ent} (h : RowOk e) : words (rowT e) = wordsT e := by
  have ej : rowT e = Str.join ⟨#[32]⟩ (wordsT e) := txt_join " " _
  show Txt.split (rowT e) ⟨#[32]⟩ = _
  rw [ej]
  refine split_join (by simp) fun p hp q => ?_
  have := words_signs h p hp 32 q
  omega
theorem star_no : nameS "*" = false := by decide +kernel
theorem rowW_ent {e : Ent} (h : RowOk e) : rowW (wordsT e) = entD e := by
  obtain ⟨h1, _, _, h4⟩ := row_hosts h
  have eh : (e.2.map hostT).map hostIn = e.2.map hostD := by
    rw [List.map_map]
    exact List.map_congr_left fun p hp => hostIn_host (h1 p hp)
  have hb : badW (e.2.map hostT) = false := by
    unfold badW
    rw [List.any_map, List.any_eq_false]
    intro p hp
    show ¬ isN (hostIn (hostT p)) = true
    rw [hostIn_host (h1 p hp)]
    exact Bool.false_ne_true
  have er : rowW (wordsT e) = if badW (e.2.map hostT) then .none else if headT e.1 = "*" then .tuple [.str "", .tuple ((e.2.map hostT).map hostIn)] else if nameS (headT e.1) then .tuple [.str (headT e.1), .tuple ((e.2.map hostT).map hostIn)] else .none := rfl
  rw [er, hb, eh, if_neg Bool.false_ne_true]
  rcases h4 with h4 | h4
  · have : headT e.1 = "*" := by unfold headT; rw [if_pos h4]
    rw [if_pos this]
    show _ = PyData.tuple [.str e.1, .tuple (e.2.map hostD)]
    rw [h4]
  · have ht : headT e.1 = e.1 := by unfold headT; rw [if_neg (nameS_ne h4)]
    have : ¬ headT e.1 = "*" := fun q => by rw [ht] at q; rw [q, star_no] at h4; cases h4
    rw [if_neg this, ht, h4, if_pos rfl]
    rfl
theorem rows_pre {a b : List Ent} (h : RowsOk (a ++ b)) : RowsOk a := by
  obtain ⟨h1, h2, h3⟩ := h
  refine ⟨by rw [List.length_append] at h1; omega, fun e he => h2 e (List.mem_append_left _ he), ?_⟩
  rw [List.map_append] at h3
  exact (List.pairwise_append.mp h3).1
theorem goL_rows : ∀ (b a : List Ent) (k : Nat), RowsOk (a ++ b) → goL (a.map entD) (b.map rowT) k = .inr ((a ++ b).map entD)
  | [], a, k, h => by simp [goL]
  | e :: b, a, k, h => by
    have h2 : RowsOk ((a ++ [e]) ++ b) := by rw [List.append_assoc]; exact h
    have he : RowOk e := h.rows e (by simp)
    have st : stepN (a.map entD) (rowW (words (rowT e))) = some ((a ++ [e]).map entD) := by
      rw [split_row he, rowW_ent he]
      unfold stepN
      have e1 : (a.map entD ++ [entD e]) = (a ++ [e]).map entD := by rw [List.map_append]; rfl
      rw [e1, rowsB_of (rows_pre h2)]
      rfl
    rw [List.map_cons]
    unfold goL
    rw [st]
    dsimp only
    rw [goL_rows b (a ++ [e]) (k + 1) h2, List.append_assoc]
    rfl
def numT (n : Int) : Str := (toString n : String)
def numOk (n : Nat) : Bool := numB (numT n) && (decide ((numT n).length ≤ 3) && (decide (val (numT n) = n) && !(chs (numT n)).contains 32 && !(chs (numT n)).contains 10))
theorem nums_ok : (List.range 1000).all numOk = true := by decide +kernel
theorem num_ok {n : Int} (h0 : 0 ≤ n) (h1 : n ≤ 999) : numB (numT n) = true ∧ (numT n).length ≤ 3 ∧ ((val (numT n) : Nat) : Int) = n ∧ 32 ∉ chs (numT n) ∧ 10 ∉ chs (numT n) := by
  obtain ⟨k, rfl⟩ := Int.eq_ofNat_of_zero_le h0
  have h := List.all_eq_true.mp nums_ok k (List.mem_range.mpr (by omega))
  unfold numOk at h
  simp only [Bool.and_eq_true, decide_eq_true_eq, Bool.not_eq_true', List.contains_eq_mem, decide_eq_false_iff_not] at h
  obtain ⟨g1, g2, ⟨g3, g4⟩, g5⟩ := h
  exact ⟨g1, g2, by rw [g3], g4, g5⟩
theorem serT_chs (v : Ver) : chs (serT v) = chs ("serial" : Str) ++ 32 :: chs (numT v.ser) := by
  unfold serT
  rw [chs_app]
  rfl
theorem ser_read {v : Ver} (h : v.Ok) : serD (serT v) = .int v.ser := by
  obtain ⟨g1, g2, g3, g4, g5⟩ := num_ok h.s0 h.s1
  have e : words (serT v) = ([("serial" : Str), numT v.ser] : List Str) := by
    apply map_chs_inj
    have e := split_chs (serT v) 32
    have e2 : (words (serT v)).map chs = cutN 32 (chs (serT v)) := e
    rw [e2, serT_chs, cutN_app, cutN_free _ _ g4]
    · rfl
    · decide
  show serW (words (serT v)) = _
  rw [e]
  show (if (decide (("serial" : Str) = "serial") && (numB (numT v.ser) && decide ((numT v.ser).length ≤ 3))) = true then PyData.int (val (numT v.ser)) else .none) = _
  rw [g1, decide_eq_true g2, g3]
  rfl
theorem line_no {v : Ver} (h : v.Ok) : ∀ l ∈ linesT v, 10 ∉ chs l := fun l hl q => by
  rcases List.mem_cons.mp hl with rfl | hl
  · rw [serT_chs] at q
    rcases List.mem_append.mp q with q | q
    · revert q; decide
    · rcases List.mem_cons.mp q with q | q
      · cases q
      · exact (num_ok h.s0 h.s1).2.2.2.2 q
  · obtain ⟨e, he, rfl⟩ := List.mem_map.mp hl
    have := rowT_signs (h.rs.rows e he) 10 q
    omega
theorem join_empty : ∀ l : List Str, chs (Str.join "" l) = (l.map chs).flatten
  | [] => rfl
  | [x] => by simp [Str.join]
  | x :: y :: r => by
    have ih := join_empty (y :: r)
    show chs (x ++ ("" : Str) ++ Str.join "" (y :: r)) = chs x ++ ((y :: r).map chs).flatten
    rw [chs_app, chs_app, ih]
    show (chs x ++ []) ++ _ = _
    rw [List.append_nil]
theorem flat_glue : ∀ ls : List Str, ((ls.map fun l => l ++ ("\n" : Str)).map chs).flatten = glueN 10 ((ls ++ [("" : Str)]).map chs)
  | [] => rfl
  | l :: ls => by
    have ih := flat_glue ls
    rw [List.map_cons, List.map_cons, List.flatten_cons, ih, chs_app, List.cons_append, List.map_cons]
    cases ls with
    | nil =>
      show (chs l ++ [10]) ++ [] = chs l ++ 10 :: []
      rw [List.append_nil]
    | cons y r =>
      show (chs l ++ [10]) ++ _ = chs l ++ 10 :: _
      rw [List.append_assoc]; rfl
theorem verT_chs (v : Ver) : chs (verT v) = glueN 10 ((linesT v ++ [("" : Str)]).map chs) := by
  unfold verT
  rw [txt_join, join_empty, flat_glue]
theorem split_ver {v : Ver} (h : v.Ok) : Txt.split (verT v) "\n" = linesT v ++ [("" : Str)] := by
  apply map_chs_inj
  have e : (Txt.split (verT v) "\n").map chs = cutN 10 (chs (verT v)) := split_chs (verT v) 10
  rw [e, verT_chs, cut_glue]
  · simp
  · intro p hp q
    obtain ⟨l, hl, rfl⟩ := List.mem_map.mp hp
    rcases List.mem_append.mp hl with hl | hl
    · exact line_no h l hl q
    · rw [List.mem_singleton.mp hl] at q; cases q
theorem res_ver {v : Ver} (h : v.Ok) : resT (Txt.split (verT v) "\n") = .inr v.d := by
  rw [split_ver h]
  unfold resT
  rw [List.dropLast_concat]
  have er : resL (linesT v) = if isN (serD (serT v)) then .inl 0 else match goL [] (v.rows.map rowT) 0 with
    | .inl k => .inl (k + 1)
    | .inr rs => .inr (.tuple [serD (serT v), .tuple rs]) := rfl
  have g := goL_rows v.rows [] 0 h.rs
  have g : goL [] (v.rows.map rowT) 0 = .inr (v.rows.map entD) := g
  rw [er, ser_read h, g]
  have ls : lastS (linesT v ++ [("" : Str)]) = "" := by
    unfold lastS
    rw [List.getLast?_append]
    rfl
  show (if lastS (linesT v ++ [("" : Str)]) = "" then Sum.inr (PyData.tuple [.int v.ser, .tuple (v.rows.map entD)]) else .inl _) = _
  rw [if_pos ls]
  rfl
end K72
namespace K72
open PySem PySem.Spec L2 Z PySem.NumText
open PyProof.Rows hiding St

/-! ## both write the same text -/
theorem add_host {p : Host} (h : HostOk p) : addD (.str p.1) (.str ".") = some (.v (.str (p.1 ++ "."))) ∧ addD (.str (p.1 ++ ".")) (.str p.2) = some (.v (.str (hostT p))) := by
  have h1 := (nameS_len h.1).2
  have h2 := under_len h
  have e : ("." : Str).length = 1 := rfl
  refine ⟨add_str (by omega), add_str ?_⟩
  have : (p.1 ++ ("." : Str)).length = p.1.length + 1 := by rw [← chs_len, chs_app, List.length_append, chs_len]; rfl
  omega
theorem host_text_run {p : Host} (h : HostOk p) : F_host_text.run [hostD p] = some (.v (.str (hostT p)), []) := by
  obtain ⟨a1, a2⟩ := add_host h
  rw [u_host_text, x_run _ _ _ _ rfl, b_host_text]
  simp [hostD, a1, a2]
theorem joinC {c : Nat} {ps : List Str} (h : (ps.map (·.length)).sum + ps.length ≤ 10000) : mjoinD (.str ⟨#[c]⟩) [.list (ps.map .str)] = some (.v (.str (Txt.join ⟨#[c]⟩ ps))) := by
  show mjoinG ⟨#[c]⟩ (ps.map .str) = _
  unfold mjoinG
  rw [mstrs, Option.bind_some, if_pos]
  have e : (⟨#[c]⟩ : Str).length = 1 := rfl
  rw [e]
  exact decide_eq_true (by omega)
theorem join0 {ps : List Str} (h : (ps.map (·.length)).sum ≤ 10000) : mjoinD (.str "") [.list (ps.map .str)] = some (.v (.str (Txt.join "" ps))) := by
  show mjoinG "" (ps.map .str) = _
  unfold mjoinG
  rw [mstrs, Option.bind_some, if_pos]
  have e : ("" : Str).length = 0 := rfl
  rw [e]
  exact decide_eq_true (by omega)
theorem words_sum {e : Ent} (h : RowOk e) : ((wordsT e).map (·.length)).sum + (wordsT e).length ≤ 10000 := by
  obtain ⟨h1, h2, h3, _⟩ := row_hosts h
  have s := sum_hosts h1
  simp only [List.map_cons, List.sum_cons, List.length_cons, List.length_map] at s ⊢
  omega
theorem row_text_run {e : Ent} (h : RowOk e) : F_row_text.run [entD e] = some (.v (.str (rowT e)), []) := by
  obtain ⟨h1, h2, h3, h4⟩ := row_hosts h
  have j : mjoinD (.str " ") [.list ((wordsT e).map .str)] = some (.v (.str (rowT e))) := joinC (c := 32) (words_sum h)
  rw [u_row_text, x_run _ _ _ _ rfl, b_row_text]
  have lc : lcL [3] (gN [] 3) bYes q_row_text_1 (e.2.map hostD) [some (.v (entD e)), some (.v (.str e.1)), some (.v (.tuple (e.2.map hostD))), none] [] = some (e.2.map (fun p => .str (hostT p)), [some (.v (entD e)), some (.v (.str e.1)), some (.v (.tuple (e.2.map hostD))), none]) := by
    refine lcL_enc hostD (fun p => .str (hostT p)) (by omega) fun p hp => ?_
    have r := host_text_run (h1 p hp)
    generalize entD e = A
    generalize e.2.map hostD = B
    exact ⟨[some (.v A), some (.v (.str e.1)), some (.v (.tuple B)), some (.v (hostD p))], _, .v (.str (hostT p)), [some (.v A), some (.v (.str e.1)), some (.v (.tuple B)), some (.v (hostD p))], rfl, rfl, by simp [q_row_text_1, r], rfl, rfl⟩
  have ew : (wordsT e).map PyData.str = .str (headT e.1) :: e.2.map (fun p => .str (hostT p)) := by
    rw [List.map_cons, List.map_map]; rfl
  rw [ew] at j
  have hl : (e.2.map fun p => PyData.str (hostT p)).length ≤ 12 := by rw [List.length_map]; exact h2
  generalize (e.2.map fun p => PyData.str (hostT p)) = H at *
  have ad : addD (.list [.str (headT e.1)]) (.list H) = some (.o (.list (.str (headT e.1) :: H))) := x_addL (by simp only [List.length_cons, List.length_nil]; omega)
  have ee : entD e = .tuple [.str e.1, .tuple (e.2.map hostD)] := rfl
  rw [ee] at lc ⊢
  generalize e.2.map hostD = B at *
  unfold headT at j ad
  by_cases c : e.1 = ""
  · rw [if_pos c] at j ad
    simp [lc, c, ad, j] at lc ⊢
    simp [lc, ad, j]
  · rw [if_neg c] at j ad
    simp [lc, c, ad, j]
theorem fine_host {p : Host} (h : HostOk p) : Fine (hostD p) := fine_tup.mpr fun x hx => by
  have h1 := (nameS_len h.1).2
  have h2 := under_len h
  simp only [List.mem_cons, List.not_mem_nil, or_false] at hx
  rcases hx with rfl | rfl
  · exact fine_of (by omega)
  · exact fine_of (by omega)
theorem fine_ent {e : Ent} (h : RowOk e) : Fine (entD e) := fine_tup.mpr fun x hx => by
  obtain ⟨h1, h2, h3, h4⟩ := row_hosts h
  simp only [List.mem_cons, List.not_mem_nil, or_false] at hx
  rcases hx with rfl | rfl
  · rcases h4 with h4 | h4
    · rw [h4]; exact fine_of (by decide)
    · have := (nameS_len h4).2; exact fine_of (by omega)
  · exact fine_tup.mpr fun y hy => by
      obtain ⟨p, hp, rfl⟩ := List.mem_map.mp hy
      exact fine_host (h1 p hp)
theorem fine_ver {v : Ver} (h : v.Ok) : Fine v.d := fine_tup.mpr fun x hx => by
  simp only [List.mem_cons, List.not_mem_nil, or_false] at hx
  rcases hx with rfl | rfl
  · exact fine_int _
  · exact fine_tup.mpr fun y hy => by
      obtain ⟨e, he, rfl⟩ := List.mem_map.mp hy
      exact fine_ent (h.rs.rows e he)
theorem str_ser {v : Ver} (h : v.Ok) : strD [.int v.ser] = some (.v (.str (numT v.ser))) := by
  have h0 := h.s0
  have h1 := h.s1
  refine x_strI ?_
  have : v.ser.natAbs ≤ 999 := by omega
  have g : v.ser.natAbs.log2 ≤ (999 : Nat).log2 := by
    rcases Nat.eq_zero_or_pos v.ser.natAbs with e | e
    · rw [e]; decide
    · have := (Nat.log2_lt (n := v.ser.natAbs) (k := 10) (by omega)).mpr (by omega)
      have e9 : (999 : Nat).log2 = 9 := by decide +kernel
      omega
  have e9 : (999 : Nat).log2 = 9 := by decide +kernel
  omega
theorem add_ser {v : Ver} (h : v.Ok) : addD (.str "serial ") (.str (numT v.ser)) = some (.v (.str (serT v))) := by
  obtain ⟨g1, g2, _⟩ := num_ok h.s0 h.s1
  have e : ("serial " : Str).length = 7 := rfl
  exact add_str (by omega)
theorem serT_len {v : Ver} (h : v.Ok) : (serT v).length ≤ 10 := by
  obtain ⟨g1, g2, _⟩ := num_ok h.s0 h.s1
  rw [← chs_len, serT_chs, List.length_append, List.length_cons, chs_len (numT v.ser)]
  have : (chs ("serial" : Str)).length = 6 := rfl
  omega
theorem line_len {v : Ver} (h : v.Ok) : ∀ l ∈ linesT v, l.length ≤ 217 := fun l hl => by
  rcases List.mem_cons.mp hl with rfl | hl
  · have := serT_len h; omega
  · obtain ⟨e, he, rfl⟩ := List.mem_map.mp hl
    exact rowT_len (h.rs.rows e he)
theorem len_nl (l : Str) : (l ++ ("\n" : Str)).length = l.length + 1 := by rw [← chs_len, chs_app, List.length_append, chs_len]; rfl
theorem lines_sum {v : Ver} (h : v.Ok) : (((linesT v).map fun l => l ++ ("\n" : Str)).map (·.length)).sum ≤ 1975 := by
  have gen : ∀ (rs : List Ent), (∀ e ∈ rs, RowOk e) → (((rs.map rowT).map fun l => l ++ ("\n" : Str)).map (·.length)).sum ≤ 218 * rs.length := by
    intro rs
    induction rs with
    | nil => intro _; exact Nat.le_refl _
    | cons e rs ih =>
      intro hr
      have h1 := rowT_len (hr e List.mem_cons_self)
      have h2 := ih fun x hx => hr x (List.mem_cons_of_mem _ hx)
      simp only [List.map_cons, List.sum_cons, List.length_cons, len_nl] at h2 ⊢
      omega
  have g := gen v.rows h.rs.rows
  have f := h.rs.few
  have s := serT_len h
  unfold linesT
  rw [List.map_cons, List.map_cons, List.sum_cons, len_nl]
  omega
theorem join_ver {v : Ver} (h : v.Ok) : mjoinD (.str "") [.list (((linesT v).map fun l => l ++ ("\n" : Str)).map .str)] = some (.v (.str (verT v))) := join0 (by have := lines_sum h; omega)
theorem verT_len {v : Ver} (h : v.Ok) : (verT v).length ≤ 1975 := by
  rw [← chs_len]
  unfold verT
  rw [txt_join, join_empty, List.length_flatten, List.map_map]
  have e : (((linesT v).map fun l => l ++ ("\n" : Str)).map (List.length ∘ chs)).sum = (((linesT v).map fun l => l ++ ("\n" : Str)).map (·.length)).sum := by
    congr 1
  rw [e]
  exact lines_sum h
theorem sm_ver {v : Ver} (h : v.Ok) : Sm 1975 20 (verT v) := by
  refine ⟨verT_len h, ?_⟩
  unfold nd
  rw [verT_chs, glueN_count isDg (c := 10) rfl]
  unfold linesT
  rw [List.cons_append, List.map_cons, List.map_cons, List.sum_cons, List.map_append, List.map_append, List.sum_append]
  have h1 : (chs (serT v)).countP isDg ≤ 10 := Nat.le_trans (List.countP_le_length ..) (by rw [chs_len]; exact serT_len h)
  have gen : ∀ (rs : List Ent), (∀ e ∈ rs, RowOk e) → (((rs.map rowT).map chs).map (List.countP isDg)).sum = 0 := by
    intro rs
    induction rs with
    | nil => intro _; rfl
    | cons e rs ih =>
      intro hr
      have h2 := ih fun x hx => hr x (List.mem_cons_of_mem _ hx)
      rw [List.map_cons, List.map_cons, List.map_cons, List.sum_cons, h2, nd0]
      intro c hc
      have := rowT_signs (hr e List.mem_cons_self) c hc
      omega
  rw [gen v.rows h.rs.rows]
  show (chs (serT v)).countP isDg + (0 + 0) ≤ 20
  omega
theorem vtext_of_run {v : Ver} (h : v.Ok) : F_version_text_of.run [v.d] = some (.v (.str (verT v)), []) := by
  have j := join_ver h
  have s := str_ser h
  have a0 : addD (.str "serial") (.str " ") = some (.v (.str "serial ")) := by kernel_rfl
  have a1 := add_ser h
  have f := h.rs.few
  rw [u_version_text_of, x_run _ _ _ _ rfl, b_version_text_of]
  have lc : lcL [1] (gN [] 1) bYes q_version_text_of_1 (v.rows.map entD) [some (.v v.d), none, none] [] = some (v.rows.map (fun e => .str (rowT e)), [some (.v v.d), none, none]) := by
    refine lcL_enc entD (fun e => .str (rowT e)) (by omega) fun e he => ?_
    have r := row_text_run (h.rs.rows e he)
    generalize v.d = A
    exact ⟨[some (.v A), some (.v (entD e)), none], _, .v (.str (rowT e)), [some (.v A), some (.v (entD e)), none], rfl, rfl, by simp [q_version_text_of_1, r], rfl, rfl⟩
  have lc2 : lcL [2] (gN [] 2) bYes q_version_text_of_2 ((linesT v).map .str) [some (.v v.d), none, none] [] = some ((linesT v).map (fun l => .str (l ++ ("\n" : Str))), [some (.v v.d), none, none]) := by
    refine lcL_enc PyData.str (fun l => .str (l ++ ("\n" : Str))) (by unfold linesT; rw [List.length_cons, List.length_map]; omega) fun l hl => ?_
    have hl2 := line_len h l hl
    have a : addD (.str l) (.str "\n") = some (.v (.str (l ++ ("\n" : Str)))) := add_str (by have : ("\n" : Str).length = 1 := rfl; omega)
    generalize v.d = A
    exact ⟨[some (.v A), none, some (.v (.str l))], _, .v (.str (l ++ ("\n" : Str))), [some (.v A), none, some (.v (.str l))], rfl, rfl, by simp [q_version_text_of_2, a], rfl, rfl⟩
  have ej : ((linesT v).map fun l => l ++ ("\n" : Str)).map PyData.str = (linesT v).map (fun l => .str (l ++ ("\n" : Str))) := by rw [List.map_map]; rfl
  rw [ej] at j
  have el : (linesT v).map PyData.str = .str (serT v) :: v.rows.map (fun e => .str (rowT e)) := by
    unfold linesT
    rw [List.map_cons, List.map_map]; rfl
  rw [el] at lc2
  have hl : (v.rows.map fun e => PyData.str (rowT e)).length ≤ 9 := by rw [List.length_map]; exact f
  generalize (linesT v).map (fun l => PyData.str (l ++ ("\n" : Str))) = L at *
  generalize (v.rows.map fun e => PyData.str (rowT e)) = H at *
  have ad : addD (.list [.str (serT v)]) (.list H) = some (.o (.list (.str (serT v) :: H))) := x_addL (by simp only [List.length_cons, List.length_nil]; omega)
  have ed : v.d = .tuple [.int v.ser, .tuple (v.rows.map entD)] := rfl
  rw [ed] at lc lc2 ⊢
  generalize v.rows.map entD = B at *
  simp [lc, lc2, a0, a1, s, ad, j]
end K72
namespace K72
open PySem PySem.Spec L2 Z PySem.NumText
open PyProof.Rows hiding St

theorem vtext_run {v : Ver} (h : v.Ok) : F_version_text.run [v.d] = some (.v (.str (verT v)), []) := by
  have a := version_any (fine_ver h)
  rw [versB_of h] at a
  have b := vtext_of_run h
  have c : F_check_version.run [v.d] = some (.v .none, []) := by
    rw [u_check_version, x_run _ _ _ _ rfl, b_check_version]
    generalize v.d = A at *
    simp [a]
  rw [u_version_text, x_run _ _ _ _ rfl, b_version_text]
  generalize v.d = A at *
  simp [b, c]
theorem text_loop (o0 : Option RV) : ∀ (es : List Ent) (acc : List Str) (o2 o3 o4 o5 o6 : Option RV), (∀ e ∈ es, RowOk e) → acc.length + es.length ≤ 100 → ∃ t2 t3,
    forL (gTn 2 (gCons (gN [] 2) (gCons (gN [] 3) gNil))) q_l_text_of_3 (es.map entD) [o0, some (.o (.list (acc.map .str))), o2, o3, none, none, o6] = some (.nx, [o0, some (.o (.list ((acc ++ es.map rowT).map .str))), t2, t3, none, none, o6])
  | [], acc, o2, o3, o4, o5, o6, _, _ => ⟨o2, o3, by simp [forL_nil]⟩
  | e :: es, acc, o2, o3, o4, o5, o6, hr, hl => by
    have h := hr e List.mem_cons_self
    obtain ⟨h1, h2, h3, h4⟩ := row_hosts h
    have j : mjoinD (.str " ") [.list ((wordsT e).map .str)] = some (.v (.str (rowT e))) := joinC (c := 32) (words_sum h)
    have g : gTn 2 (gCons (gN [] 2) (gCons (gN [] 3) gNil)) (entD e) [o0, some (.o (.list (acc.map .str))), o2, o3, none, none, o6] = some [o0, some (.o (.list (acc.map .str))), some (.v (.str e.1)), some (.v (.tuple (e.2.map hostD))), none, none, o6] := rfl
    have lc : lcL [4, 5] (gTn 2 (gCons (gN [] 4) (gCons (gN [] 5) gNil))) bYes q_l_text_of_2 (e.2.map hostD) [o0, some (.o (.list (acc.map .str))), some (.v (.str e.1)), some (.v (.tuple (e.2.map hostD))), none, none, o6] [] = some (e.2.map (fun p => .str (hostT p)), [o0, some (.o (.list (acc.map .str))), some (.v (.str e.1)), some (.v (.tuple (e.2.map hostD))), none, none, o6]) := by
      refine lcL_enc hostD (fun p => .str (hostT p)) (by omega) fun p hp => ?_
      obtain ⟨a1, a2⟩ := add_host (h1 p hp)
      generalize e.2.map hostD = B
      generalize acc.map PyData.str = A
      exact ⟨[o0, some (.o (.list A)), some (.v (.str e.1)), some (.v (.tuple B)), some (.v (.str p.1)), some (.v (.str p.2)), o6], _, .v (.str (hostT p)), [o0, some (.o (.list A)), some (.v (.str e.1)), some (.v (.tuple B)), some (.v (.str p.1)), some (.v (.str p.2)), o6], rfl, rfl, by simp [q_l_text_of_2, a1, a2], rfl, rfl⟩
    have ew : (wordsT e).map PyData.str = .str (headT e.1) :: e.2.map (fun p => .str (hostT p)) := by
      rw [List.map_cons, List.map_map]; rfl
    rw [ew] at j
    have hl2 : (e.2.map fun p => PyData.str (hostT p)).length ≤ 12 := by rw [List.length_map]; exact h2
    have st : q_l_text_of_3 [o0, some (.o (.list (acc.map .str))), some (.v (.str e.1)), some (.v (.tuple (e.2.map hostD))), none, none, o6] = some (.nx, [o0, some (.o (.list ((acc ++ [rowT e]).map .str))), some (.v (.str e.1)), some (.v (.tuple (e.2.map hostD))), none, none, o6]) := by
      generalize (e.2.map fun p => PyData.str (hostT p)) = H at *
      have ad : addD (.list [.str (headT e.1)]) (.list H) = some (.o (.list (.str (headT e.1) :: H))) := x_addL (by simp only [List.length_cons, List.length_nil]; omega)
      have ea : (acc ++ [rowT e]).map PyData.str = acc.map .str ++ [.str (rowT e)] := by rw [List.map_append]; rfl
      have sz : (acc.map PyData.str).length < 16777216 := by rw [List.length_map]; simp at hl; omega
      rw [ea]
      generalize e.2.map hostD = B at *
      generalize acc.map PyData.str = A at *
      unfold headT at j ad
      by_cases c : e.1 = ""
      · rw [if_pos c] at j ad
        rw [c] at lc ⊢
        simp [q_l_text_of_3, lc, ad, j, sz]
      · rw [if_neg c] at j ad
        simp [q_l_text_of_3, lc, c, ad, j, sz]
    rw [List.map_cons, forL_cons, g, Option.bind_some, st, Option.bind_some]
    obtain ⟨t2, t3, ih⟩ := text_loop o0 es (acc ++ [rowT e]) (some (.v (.str e.1))) (some (.v (.tuple (e.2.map hostD)))) none none o6 (fun x hx => hr x (List.mem_cons_of_mem _ hx)) (by simp at hl ⊢; omega)
    refine ⟨t2, t3, ?_⟩
    dsimp only
    rw [ih, List.append_assoc]
    rfl
theorem ltext_run {v : Ver} (h : v.Ok) : F_l_text_of.run [v.d] = some (.v (.str (verT v)), []) := by
  have j := join_ver h
  have s := str_ser h
  have a1 := add_ser h
  have f := h.rs.few
  obtain ⟨t2, t3, lp⟩ := text_loop (some (.v v.d)) v.rows [serT v] none none none none none h.rs.rows (by simp; omega)
  have el : ([serT v] ++ v.rows.map rowT) = linesT v := rfl
  rw [el] at lp
  have e1 : ([serT v] : List Str).map PyData.str = [.str (serT v)] := rfl
  rw [e1] at lp
  rw [u_l_text_of, x_run _ _ _ _ rfl, b_l_text_of]
  have lc : lcL [6] (gN [] 6) bYes q_l_text_of_1 ((linesT v).map .str) [some (.v v.d), some (.v (.list ((linesT v).map .str))), t2, t3, none, none, none] [] = some ((linesT v).map (fun l => .str (l ++ ("\n" : Str))), [some (.v v.d), some (.v (.list ((linesT v).map .str))), t2, t3, none, none, none]) := by
    refine lcL_enc PyData.str (fun l => .str (l ++ ("\n" : Str))) (by unfold linesT; rw [List.length_cons, List.length_map]; omega) fun l hl => ?_
    have hl2 := line_len h l hl
    have a : addD (.str l) (.str "\n") = some (.v (.str (l ++ ("\n" : Str)))) := add_str (by have : ("\n" : Str).length = 1 := rfl; omega)
    generalize v.d = A
    generalize (linesT v).map PyData.str = B
    exact ⟨[some (.v A), some (.v (.list B)), t2, t3, none, none, some (.v (.str l))], _, .v (.str (l ++ ("\n" : Str))), [some (.v A), some (.v (.list B)), t2, t3, none, none, some (.v (.str l))], rfl, rfl, by simp [q_l_text_of_1, a], rfl, rfl⟩
  have ej : ((linesT v).map fun l => l ++ ("\n" : Str)).map PyData.str = (linesT v).map (fun l => .str (l ++ ("\n" : Str))) := by rw [List.map_map]; rfl
  rw [ej] at j
  generalize (linesT v).map (fun l => PyData.str (l ++ ("\n" : Str))) = L at *
  generalize (linesT v).map PyData.str = M at *
  have ed : v.d = .tuple [.int v.ser, .tuple (v.rows.map entD)] := rfl
  rw [ed] at lc lp ⊢
  generalize v.rows.map entD = B at *
  simp [s, a1, lp, lc, j]
end K72
namespace K72
open PySem PySem.Spec L2 Z PySem.NumText
open PyProof.Rows hiding St

/-! ## a turn -/
theorem okS_ver {v : Ver} (h : v.Ok) : okS 6 v.d = true := by
  have hr : okS 5 (.tuple (v.rows.map entD)) = true := by
    show (decide ((v.rows.map entD).length ≤ 4000) && (v.rows.map entD).all (okS 4)) = true
    have := h.rs.few
    rw [List.length_map, decide_eq_true (by omega), Bool.true_and]
    refine List.all_eq_true.mpr fun x hx => ?_
    obtain ⟨e, he, rfl⟩ := List.mem_map.mp hx
    have hk := h.rs.rows e he
    rw [← rowW_ent hk]
    have := (row_hosts hk).2.1
    exact okS_rowW (by simp; omega)
  show (decide (2 ≤ 4000) && (okS 5 (.int v.ser) && (okS 5 (.tuple (v.rows.map entD)) && true))) = true
  rw [hr]; rfl
theorem nread_run {v : Ver} (h : v.Ok) : F_read_version.run [.str (verT v)] = some (.v v.d, []) := by
  have tk := txtOk_of ((sm_ver h).mono (L' := 3990) (N' := 600) (by omega) (by omega))
  have rs := res_ver h
  have e10 : ("\n" : Str) = ⟨#[10]⟩ := rfl
  have sp := split_run (verT v) tk.len 10
  have hn := split_le (verT v) ⟨#[10]⟩
  have hp := split_pos (verT v) ⟨#[10]⟩
  have hf := tk.few
  have it := istext (verT v)
  have hl := tk.len
  rw [u_read_version, x_run _ _ _ _ rfl, b_read_version]
  rw [e10] at hf rs
  generalize Txt.split (verT v) ⟨#[10]⟩ = ps at *
  have rl := readlines_run (ls := ps.dropLast) (by rw [List.length_dropLast]; omega) fun l hl => hf l ((List.dropLast_sublist ps).subset hl)
  have cl := cut_last (ps.map .str)
  rw [← List.map_dropLast] at cl
  have al := at_last hp
  unfold resT at rs
  generalize ps.dropLast.map PyData.str = L at *
  cases e : resL ps.dropLast with
  | inl k => rw [e] at rs; cases rs
  | inr d =>
    rw [e] at rs rl
    have rs : (if lastS ps = "" then Sum.inr d else Sum.inl (ps.length - 1)) = (Sum.inr v.d : Nat ⊕ D) := rs
    by_cases c : lastS ps = ""
    · rw [if_pos c] at rs
      cases rs
      have sq : splitD (.str (verT v)) [.str "\n"] = some (.o (.list (ps.map .str))) := sp
      generalize verT v = t at *
      generalize v.d = x at *
      simp [it, sp, sq, cl, rl, linesD, al, c]
    · rw [if_neg c] at rs; cases rs
theorem trio_run {v : Ver} (h : v.Ok) : F_l_same.run [.list [.str (verT v), .str (verT v), v.d], .list [.str (verT v), .str (verT v), v.d]] = some (.v (.bool true), []) := by
  have hx : okS 7 (.list [.str (verT v), .str (verT v), v.d]) = true := by
    have e : okS 7 (.list [.str (verT v), .str (verT v), v.d]) = (decide (3 ≤ 4000) && (okS 6 (.str (verT v)) && (okS 6 (.str (verT v)) && (okS 6 v.d && true)))) := rfl
    rw [e, okS_ver h]
    rfl
  generalize PyData.list [.str (verT v), .str (verT v), v.d] = x at *
  have s := same_refl 7 x hx
  exact s
end K72
namespace K72
open PySem PySem.Spec L2 Z PySem.NumText
open PyProof.Rows hiding St

theorem bend_step {d : D} (hd : Well d) {t : Str} (h : Sm 1975 20 t) (o2 o3 o4 o5 o6 : Option RV) : ∃ d', q_l_right_1 [some (.o d), some (.v (.str t)), o2, o3, o4, o5, o6] = some (.nx, [some (.o d'), some (.v (.str t)), o2, o3, o4, o5, o6]) ∧ Well d' := by
  obtain ⟨t', d1, e1, m, w1⟩ := bent_run hd h
  obtain ⟨d2, e2, w2⟩ := told_run w1 (txtOk_of m) m.len
  exact ⟨d2, by simp [q_l_right_1, e1, e2], w2⟩
theorem bend_loop {t : Str} (h : Sm 1975 20 t) (o2 o3 o4 o5 : Option RV) : ∀ (ds : List D) (d : D) (o6 : Option RV), Well d → ∃ d' t6, forL (gN [0] 6) q_l_right_1 ds [some (.o d), some (.v (.str t)), o2, o3, o4, o5, o6] = some (.nx, [some (.o d'), some (.v (.str t)), o2, o3, o4, o5, t6]) ∧ Well d'
  | [], d, o6, hd => ⟨d, o6, rfl, hd⟩
  | x :: ds, d, o6, hd => by
    obtain ⟨d1, e1, w1⟩ := bend_step hd h o2 o3 o4 o5 (some (.v x))
    obtain ⟨d2, t6, e2, w2⟩ := bend_loop h o2 o3 o4 o5 ds d1 (some (.v x)) w1
    have g : gN [0] 6 x [some (.o d), some (.v (.str t)), o2, o3, o4, o5, o6] = some [some (.o d), some (.v (.str t)), o2, o3, o4, o5, some (.v x)] := rfl
    refine ⟨d2, t6, ?_, w2⟩
    rw [forL_cons, g, Option.bind_some, e1, Option.bind_some]
    exact e2
theorem turn_step {d : D} (hd : Well d) (o1 o2 o3 o4 o5 o6 : Option RV) : ∃ d' t1 t4 t5 t6, q_l_right_2 [some (.o d), o1, o2, o3, o4, o5, o6] = some (.nx, [some (.o d'), t1, o2, o3, t4, t5, t6]) ∧ Well d' := by
  obtain ⟨r, d1, e1, r0, r1, w1⟩ := take_well (m := 10) hd (by omega) (by omega)
  obtain ⟨k, rfl⟩ := Int.eq_ofNat_of_zero_le r0
  obtain ⟨rv, ns, d2, e2, erv, hlen, hrise, hnm, w2⟩ := names_run (m := 2 + k) w1 (by omega)
  have e2' : F_l_names.run [d1, .int (2 + (k : Int))] = some (rv, [d2]) := by
    have : ((2 + k : Nat) : Int) = 2 + (k : Int) := by omega
    rw [← this]; exact e2
  have hN : Nms ns := ⟨by rw [hlen]; omega, by rw [hlen]; omega, hnm⟩
  obtain ⟨v, d3, e3, hv, w3⟩ := version_run hN hrise w2
  have e4 := ltext_run hv
  have e5 := vtext_run hv
  have e6 := nread_run hv
  have e7 := trio_run hv
  have sm := sm_ver hv
  rw [← erv] at e3
  have up : rng1 [.int 12] = some (Z.upTo 0 12) := x_rng1 (j := 12) (by omega) (by omega)
  generalize verT v = t at *
  generalize v.d = x at *
  obtain ⟨d4, t6, e8, w4⟩ := bend_loop sm o2 o3 (some (.v rv.d)) (some (.v x)) (Z.upTo 0 12) d3 o6 w3
  generalize Z.upTo 0 12 = U at *
  refine ⟨d4, some (.v (.str t)), some (.v rv.d), some (.v x), t6, ?_, w4⟩
  cases rv with
  | v y =>
    have erv2 : (RV.v y).d = y := rfl
    rw [erv2] at e3 e8 ⊢
    simp [q_l_right_2, e1, e2', e3, e4, e5, e6, e7, up, e8]
  | o y =>
    have erv2 : (RV.o y).d = y := rfl
    rw [erv2] at e3 e8 ⊢
    simp [q_l_right_2, e1, e2', e3, e4, e5, e6, e7, up, e8]
end K72
namespace K72
open PySem PySem.Spec L2 Z PySem.NumText
open PyProof.Rows hiding St

/-! ## what is no text -/
theorem odd_asked {x : D} (hx : isiD ["str"] x = false) (way : Int) : F_l_asked.run [x, .int way] = some (.v (.tuple [.str "text", .none]), []) := by
  have it := text_any x
  rw [hx] at it
  have rr : FX_read_version.run [x] = some (.inr ⟨"InvalidText", "index", .none⟩) := by
    rw [ux_read_version, x_runX 4 1 bx_read_version [x] rfl, bx_read_version]
    simp [sxSeq, sxIf, sxN, sxRaise, it]
  rw [u_l_asked, x_run _ _ _ _ rfl, b_l_asked]
  have bt : ∃ ρ', bt_l_asked [some (.v x), some (.v (.int way)), none] = some (.inr ⟨"InvalidText", "index", .none⟩, ρ') ∧ 2 < ρ'.length := by
    by_cases c : way = 0
    · exact ⟨[some (.v x), some (.v (.int way)), none], by simp [bt_l_asked, sxSeq, sxRet, xTup2, xIf, xCall, xCallK, rr, c, tvs], by simp⟩
    · exact ⟨[some (.v x), some (.v (.int way)), none], by simp [bt_l_asked, sxSeq, sxRet, xTup2, xIf, xCall, xCallK, permL, rr, c, tvs], by simp⟩
  obtain ⟨ρ', b1, b2⟩ := bt
  have st : sTry "InvalidText" "index" (.str "text") 2 bt_l_asked [some (.v x), some (.v (.int way)), none] = some (.rt (.v (.tuple [.str "text", .none])), ρ'.set 2 none) := by
    unfold sTry
    rw [b1, Option.bind_some]
    dsimp only
    rw [if_pos ⟨rfl, rfl, b2⟩]
  simp [st]
theorem odd_same : F_l_same.run [.tuple [.str "text", .none], .tuple [.str "text", .none]] = some (.v (.bool true), []) := by
  have hx : okS 7 (.tuple [.str "text", .none]) = true := rfl
  generalize PyData.tuple [.str "text", .none] = x at *
  have s := same_refl 7 x hx
  exact s
theorem odd_loop (o1 o3 o4 o5 o6 : Option RV) : ∀ (ds : List D) (d : D) (o2 : Option RV), Well d → (∀ x ∈ ds, isiD ["str"] x = false) → ∃ d' t2, forL (gN [0] 2) q_l_right_3 ds [some (.o d), o1, o2, o3, o4, o5, o6] = some (.nx, [some (.o d'), o1, t2, o3, o4, o5, o6]) ∧ Well d'
  | [], d, o2, hd, _ => ⟨d, o2, rfl, hd⟩
  | x :: ds, d, o2, hd, hx => by
    obtain ⟨r, d1, e1, _, _, w1⟩ := take_well (m := 2) hd (by omega) (by omega)
    have a := odd_asked (hx x List.mem_cons_self) r
    have s := odd_same
    obtain ⟨d2, t2, e2, w2⟩ := odd_loop o1 o3 o4 o5 o6 ds d1 (some (.v x)) w1 fun y hy => hx y (List.mem_cons_of_mem _ hy)
    have g : gN [0] 2 x [some (.o d), o1, o2, o3, o4, o5, o6] = some [some (.o d), o1, some (.v x), o3, o4, o5, o6] := rfl
    have st : q_l_right_3 [some (.o d), o1, some (.v x), o3, o4, o5, o6] = some (.nx, [some (.o d1), o1, some (.v x), o3, o4, o5, o6]) := by simp [q_l_right_3, e1, a, s]
    refine ⟨d2, t2, ?_, w2⟩
    rw [forL_cons, g, Option.bind_some, st, Option.bind_some]
    exact e2
theorem edge_loop (o2 o3 o4 o5 o6 : Option RV) : ∀ (ts : List Str) (d : D) (o1 : Option RV), Well d → (∀ t ∈ ts, Sm 3990 600 t) → ∃ d' t1, forL (gN [0] 1) q_l_right_4 (ts.map .str) [some (.o d), o1, o2, o3, o4, o5, o6] = some (.nx, [some (.o d'), t1, o2, o3, o4, o5, o6]) ∧ Well d'
  | [], d, o1, hd, _ => ⟨d, o1, rfl, hd⟩
  | t :: ts, d, o1, hd, hx => by
    have m := hx t List.mem_cons_self
    obtain ⟨d1, e1, w1⟩ := told_run hd (txtOk_of m) m.len
    obtain ⟨d2, t1, e2, w2⟩ := edge_loop o2 o3 o4 o5 o6 ts d1 (some (.v (.str t))) w1 fun y hy => hx y (List.mem_cons_of_mem _ hy)
    have g : gN [0] 1 (.str t) [some (.o d), o1, o2, o3, o4, o5, o6] = some [some (.o d), some (.v (.str t)), o2, o3, o4, o5, o6] := rfl
    have st : q_l_right_4 [some (.o d), some (.v (.str t)), o2, o3, o4, o5, o6] = some (.nx, [some (.o d1), some (.v (.str t)), o2, o3, o4, o5, o6]) := by simp [q_l_right_4, e1]
    refine ⟨d2, t1, ?_, w2⟩
    rw [List.map_cons, forL_cons, g, Option.bind_some, st, Option.bind_some]
    exact e2
theorem turns_loop (o2 : Option RV) : ∀ (ds : List D) (d : D) (o1 o3 o4 o5 o6 : Option RV), Well d → ∃ d' t1 t3 t4 t5 t6, forL (gN [0] 3) q_l_right_2 ds [some (.o d), o1, o2, o3, o4, o5, o6] = some (.nx, [some (.o d'), t1, o2, t3, t4, t5, t6]) ∧ Well d'
  | [], d, o1, o3, o4, o5, o6, hd => ⟨d, o1, o3, o4, o5, o6, rfl, hd⟩
  | x :: ds, d, o1, o3, o4, o5, o6, hd => by
    obtain ⟨d1, s1, s4, s5, s6, e1, w1⟩ := turn_step hd o1 o2 (some (.v x)) o4 o5 o6
    obtain ⟨d2, t1, t3, t4, t5, t6, e2, w2⟩ := turns_loop o2 ds d1 s1 (some (.v x)) s4 s5 s6 w1
    have g : gN [0] 3 x [some (.o d), o1, o2, o3, o4, o5, o6] = some [some (.o d), o1, o2, some (.v x), o4, o5, o6] := rfl
    refine ⟨d2, t1, t3, t4, t5, t6, ?_, w2⟩
    rw [forL_cons, g, Option.bind_some, e1, Option.bind_some]
    exact e2
end K72
namespace K72
open PySem PySem.Spec L2 Z PySem.NumText
open PyProof.Rows hiding St

/-! ## the edges -/
theorem sm_of {L N : Nat} (s : Str) (h : (decide (s.length ≤ L) && decide (nd s ≤ N)) = true) : Sm L N s := by
  rw [Bool.and_eq_true, decide_eq_true_eq, decide_eq_true_eq] at h
  exact ⟨h.1, h.2⟩
theorem sm_name {s : Str} (h : nameS s = true) : Sm 8 0 s := ⟨(nameS_len h).2, Nat.le_of_eq (nd0 fun c hc => by have := name_let h c hc; omega)⟩
/-- an addition of two small texts -/
theorem sm_add {L N L' N' : Nat} {a b : Str} (h : Sm L N a) (g : Sm L' N' b) (hl : L + L' ≤ 1000) : ∃ c : Str, addD (.str a) (.str b) = some (.v (.str c)) ∧ Sm (L + L') (N + N') c :=
  ⟨a ++ b, add_str (by have := h.len; have := g.len; omega), h.app g⟩
theorem sm_join0 (f : Str → Str) : ∀ ns : List Str, (∀ s ∈ ns, Sm 12 0 (f s)) → ns.length ≤ 13 → ∃ c : Str, mjoinD (.str "") [.list (ns.map fun s => .str (f s))] = some (.v (.str c)) ∧ Sm 156 0 c := by
  intro ns h hl
  have gen : ∀ ns : List Str, (∀ s ∈ ns, Sm 12 0 (f s)) → ((ns.map f).map (·.length)).sum ≤ 12 * ns.length ∧ (((ns.map f).map chs).flatten).countP isDg = 0 := by
    intro ns
    induction ns with
    | nil => intro _; exact ⟨Nat.le_refl _, rfl⟩
    | cons s ns ih =>
      intro h
      obtain ⟨i1, i2⟩ := ih fun x hx => h x (List.mem_cons_of_mem _ hx)
      have h1 := h s List.mem_cons_self
      have h2 : (chs (f s)).countP isDg ≤ 0 := h1.dig
      have h3 := h1.len
      refine ⟨by simp only [List.map_cons, List.sum_cons, List.length_cons] at i1 ⊢; omega, ?_⟩
      rw [List.map_cons, List.map_cons, List.flatten_cons, List.countP_append, i2]
      omega
  obtain ⟨g1, g2⟩ := gen ns h
  have j := join0 (ps := ns.map f) (by omega)
  rw [List.map_map] at j
  refine ⟨Txt.join "" (ns.map f), j, ?_, ?_⟩
  · rw [← chs_len, txt_join, join_empty, List.length_flatten, List.map_map]
    have e : ((ns.map f).map (List.length ∘ chs)).sum = ((ns.map f).map (·.length)).sum := by congr 1
    rw [e]
    omega
  · unfold nd
    rw [txt_join, join_empty, g2]
    omega
def AllS : List D → Prop
  | [] => True
  | x :: r => (∃ s : Str, x = .str s ∧ Sm 3990 600 s) ∧ AllS r
theorem allS_of : ∀ {l : List D}, AllS l → ∃ ts : List Str, l = ts.map .str ∧ ∀ t ∈ ts, Sm 3990 600 t
  | [], _ => ⟨[], rfl, fun t h => by cases h⟩
  | x :: r, h => by
    obtain ⟨⟨s, rfl, m⟩, h2⟩ := h
    obtain ⟨ts, e, g⟩ := allS_of h2
    refine ⟨s :: ts, by rw [e]; rfl, fun t ht => ?_⟩
    rcases List.mem_cons.mp ht with rfl | ht
    · exact m
    · exact g t ht
theorem edges_run {d : D} (hd : Well d) : ∃ (L : List D) (d' : D), F_l_edges.run [d] = some (.o (.list L), [d']) ∧ AllS L ∧ Well d' := by
  obtain ⟨rv, ns, dn, en, erv, hlen, _, hnm, wn⟩ := names_run (m := 13) hd (by omega)
  have en : F_l_names.run [d, .int 13] = some (rv, [dn]) := en
  have nmk : ∀ i, i < 13 → ∃ s : Str, atI (ns.map PyData.str) (i : Nat) = some (.str s) ∧ Sm 8 0 s := fun i hi => by
    have hi' : i < ns.length := by omega
    exact ⟨ns[i], by rw [atI_of, List.getElem?_map, List.getElem?_eq_getElem hi']; rfl, sm_name (hnm _ (List.getElem_mem hi'))⟩
  obtain ⟨n0, t0, k0⟩ := nmk 0 (by omega)
  obtain ⟨n1, t1, k1⟩ := nmk 1 (by omega)
  obtain ⟨n9, t9, k9⟩ := nmk 9 (by omega)
  obtain ⟨n12, t12, k12⟩ := nmk 12 (by omega)
  have t0 : atI (ns.map PyData.str) 0 = some (.str n0) := t0
  have t1 : atI (ns.map PyData.str) 1 = some (.str n1) := t1
  have t9 : atI (ns.map PyData.str) 9 = some (.str n9) := t9
  have t12 : atI (ns.map PyData.str) 12 = some (.str n12) := t12
  have x9 : cut (ns.map PyData.str) none (some 9) = (ns.take 9).map .str := by rw [List.map_take]; exact cut_take _ 9
  have x12 : cut (ns.map PyData.str) none (some 12) = (ns.take 12).map .str := by rw [List.map_take]; exact cut_take _ 12
  have mem9 : ∀ s ∈ ns.take 9, nameS s = true := fun s hs => hnm s (List.mem_of_mem_take hs)
  have mem12 : ∀ s ∈ ns.take 12, nameS s = true := fun s hs => hnm s (List.mem_of_mem_take hs)
  obtain ⟨nine, j9, m9⟩ := sm_join0 (fun s => s ++ "\n") (ns.take 9) (fun s hs => (((sm_name (mem9 s hs)).app (sm_of (L := 1) (N := 0) "\n" (by decide +kernel)))).mono (by omega) (by omega)) (by rw [List.length_take]; omega)
  obtain ⟨g12, j12, m12⟩ := sm_join0 (fun s => " ns." ++ s) (ns.take 12) (fun s hs => (((sm_of (L := 4) (N := 0) " ns." (by decide +kernel)).app (sm_name (mem12 s hs)))).mono (by omega) (by omega)) (by rw [List.length_take]; omega)
  have lc9 : ∀ o2 o3 o4 o5 : Option RV, lcL [6] (gN [] 6) bYes q_l_edges_2 ((ns.take 9).map .str) [some (.o dn), some rv, o2, o3, o4, o5, none] [] = some ((ns.take 9).map (fun s => .str (s ++ ("\n" : Str))), [some (.o dn), some rv, o2, o3, o4, o5, none]) := by
    intro o2 o3 o4 o5
    refine lcL_enc PyData.str (fun s => .str (s ++ ("\n" : Str))) (by rw [List.length_take]; omega) fun s hs => ?_
    have hl := (nameS_len (mem9 s hs)).2
    have a : addD (.str s) (.str "\n") = some (.v (.str (s ++ ("\n" : Str)))) := add_str (by have : ("\n" : Str).length = 1 := rfl; omega)
    exact ⟨[some (.o dn), some rv, o2, o3, o4, o5, some (.v (.str s))], _, .v (.str (s ++ ("\n" : Str))), [some (.o dn), some rv, o2, o3, o4, o5, some (.v (.str s))], rfl, rfl, by simp [q_l_edges_2, a], rfl, rfl⟩
  have lc12 : ∀ o2 o3 o4 o5 : Option RV, lcL [6] (gN [] 6) bYes q_l_edges_1 ((ns.take 12).map .str) [some (.o dn), some rv, o2, o3, o4, o5, none] [] = some ((ns.take 12).map (fun s => .str ((" ns." : Str) ++ s)), [some (.o dn), some rv, o2, o3, o4, o5, none]) := by
    intro o2 o3 o4 o5
    refine lcL_enc PyData.str (fun s => .str ((" ns." : Str) ++ s)) (by rw [List.length_take]; omega) fun s hs => ?_
    have hl := (nameS_len (mem12 s hs)).2
    have a : addD (.str " ns.") (.str s) = some (.v (.str ((" ns." : Str) ++ s))) := add_str (by have : (" ns." : Str).length = 4 := rfl; omega)
    exact ⟨[some (.o dn), some rv, o2, o3, o4, o5, some (.v (.str s))], _, .v (.str ((" ns." : Str) ++ s)), [some (.o dn), some rv, o2, o3, o4, o5, some (.v (.str s))], rfl, rfl, by simp [q_l_edges_1, a], rfl, rfl⟩
  obtain ⟨e1, a1, me1⟩ := sm_add (sm_of (L := 100) (N := 10) "serial 1\n" (by decide +kernel)) m9 (by omega)
  obtain ⟨e2, a2, me2⟩ := sm_add me1 k9 (by omega)
  obtain ⟨e3, a3, me3⟩ := sm_add me2 (sm_of (L := 100) (N := 10) "\n" (by decide +kernel)) (by omega)
  obtain ⟨e4, a4, me4⟩ := sm_add (sm_of (L := 100) (N := 10) "serial 1\n*\n" (by decide +kernel)) m9 (by omega)
  obtain ⟨gl, ag, mgl⟩ := sm_add (sm_of (L := 100) (N := 10) "*" (by decide +kernel)) m12 (by omega)
  obtain ⟨f1, b1, mf1⟩ := sm_add (sm_of (L := 100) (N := 10) "serial 1\n" (by decide +kernel)) mgl (by omega)
  obtain ⟨f2, b2, mf2⟩ := sm_add mf1 (sm_of (L := 100) (N := 10) "\n" (by decide +kernel)) (by omega)
  obtain ⟨f3, b3, mf3⟩ := sm_add mf1 (sm_of (L := 100) (N := 10) " ns." (by decide +kernel)) (by omega)
  obtain ⟨f4, b4, mf4⟩ := sm_add mf3 k12 (by omega)
  obtain ⟨f5, b5, mf5⟩ := sm_add mf4 (sm_of (L := 100) (N := 10) "\n" (by decide +kernel)) (by omega)
  obtain ⟨h1, c1, mh1⟩ := sm_add (sm_of (L := 100) (N := 10) "serial 1\n" (by decide +kernel)) k0 (by omega)
  obtain ⟨h2, c2, mh2⟩ := sm_add mh1 (sm_of (L := 100) (N := 10) "\n*\n" (by decide +kernel)) (by omega)
  obtain ⟨i1, d1', mi1⟩ := sm_add (sm_of (L := 100) (N := 10) "serial 1\n* ns." (by decide +kernel)) k1 (by omega)
  obtain ⟨i2, d2', mi2⟩ := sm_add mi1 (sm_of (L := 100) (N := 10) " ns." (by decide +kernel)) (by omega)
  obtain ⟨i3, d3', mi3⟩ := sm_add mi2 k0 (by omega)
  obtain ⟨i4, d4', mi4⟩ := sm_add mi3 (sm_of (L := 100) (N := 10) "\n" (by decide +kernel)) (by omega)
  have z0 : addD (.str " a.") (.str " b.") = some (.v (.str " a. b.")) := by kernel_rfl
  have z1 : addD (.str " a. b.") (.str " c.") = some (.v (.str " a. b. c.")) := by kernel_rfl
  have z2 : addD (.str " a. b. c.") (.str " d.") = some (.v (.str " a. b. c. d.")) := by kernel_rfl
  have z3 : addD (.str "serial 1\nann") (.str " a. b. c. d.") = some (.v (.str "serial 1\nann a. b. c. d.")) := by kernel_rfl
  have z4 : addD (.str "serial 1\nann a. b. c. d.") (.str "\n") = some (.v (.str "serial 1\nann a. b. c. d.\n")) := by kernel_rfl
  have z5 : addD (.str "serial 1\nann a. b. c. d.") (.str " e.\n") = some (.v (.str "serial 1\nann a. b. c. d. e.\n")) := by kernel_rfl
  refine ⟨[.str "", .str "\n", .str "serial 0\n", .str "serial 999\n", .str "serial 1000\n", .str "serial 00\n", .str "serial 07\n", .str "serial\n", .str "serial \n", .str "serial 1", .str "Serial 1\n", .str "serial 1 \n", .str " serial 1\n", .str "serial  1\n", .str "serial -1\n", .str "serial 1_0\n", .str "serial +1\n", .str "serial 1\n\n", .str e1, .str e3, .str e2, .str e4, .str f2, .str f5, .str "serial 1\n* ns.\n", .str h2, .str i4, .str "serial 1\n*\n*\n", .str "serial 1\n* \n", .str "serial 1\n*ns.a\n", .str "serial 1\nann a. b. c. d.\n", .str "serial 1\nann a. b. c. d. e.\n", .str "serial 1\nann a. a.\n", .str "serial 1\nann b. a.\n", .str "serial 1\nann .a\n", .str "serial 1\nann a\n", .str "serial 1\nann a.b.c\n", .str "serial 1\nabcdefghi\n", .str "serial 1\nAnn\n", .str "serial 1\nann a..\n", .str "serial 1\nben\nann\n", .str "serial 1\nann\nann a.\n", .str "serial 1\nann \n", .str "serial 1\nann\u0009b.\n", .str "serial 1\u0009\n"], dn, ?_, ⟨⟨_, rfl, sm_of _ (by decide +kernel)⟩, ⟨⟨_, rfl, sm_of _ (by decide +kernel)⟩, ⟨⟨_, rfl, sm_of _ (by decide +kernel)⟩, ⟨⟨_, rfl, sm_of _ (by decide +kernel)⟩, ⟨⟨_, rfl, sm_of _ (by decide +kernel)⟩, ⟨⟨_, rfl, sm_of _ (by decide +kernel)⟩, ⟨⟨_, rfl, sm_of _ (by decide +kernel)⟩, ⟨⟨_, rfl, sm_of _ (by decide +kernel)⟩, ⟨⟨_, rfl, sm_of _ (by decide +kernel)⟩, ⟨⟨_, rfl, sm_of _ (by decide +kernel)⟩, ⟨⟨_, rfl, sm_of _ (by decide +kernel)⟩, ⟨⟨_, rfl, sm_of _ (by decide +kernel)⟩, ⟨⟨_, rfl, sm_of _ (by decide +kernel)⟩, ⟨⟨_, rfl, sm_of _ (by decide +kernel)⟩, ⟨⟨_, rfl, sm_of _ (by decide +kernel)⟩, ⟨⟨_, rfl, sm_of _ (by decide +kernel)⟩, ⟨⟨_, rfl, sm_of _ (by decide +kernel)⟩, ⟨⟨_, rfl, sm_of _ (by decide +kernel)⟩, ⟨⟨_, rfl, me1.mono (by omega) (by omega)⟩, ⟨⟨_, rfl, me3.mono (by omega) (by omega)⟩, ⟨⟨_, rfl, me2.mono (by omega) (by omega)⟩, ⟨⟨_, rfl, me4.mono (by omega) (by omega)⟩, ⟨⟨_, rfl, mf2.mono (by omega) (by omega)⟩, ⟨⟨_, rfl, mf5.mono (by omega) (by omega)⟩, ⟨⟨_, rfl, sm_of _ (by decide +kernel)⟩, ⟨⟨_, rfl, mh2.mono (by omega) (by omega)⟩, ⟨⟨_, rfl, mi4.mono (by omega) (by omega)⟩, ⟨⟨_, rfl, sm_of _ (by decide +kernel)⟩, ⟨⟨_, rfl, sm_of _ (by decide +kernel)⟩, ⟨⟨_, rfl, sm_of _ (by decide +kernel)⟩, ⟨⟨_, rfl, sm_of _ (by decide +kernel)⟩, ⟨⟨_, rfl, sm_of _ (by decide +kernel)⟩, ⟨⟨_, rfl, sm_of _ (by decide +kernel)⟩, ⟨⟨_, rfl, sm_of _ (by decide +kernel)⟩, ⟨⟨_, rfl, sm_of _ (by decide +kernel)⟩, ⟨⟨_, rfl, sm_of _ (by decide +kernel)⟩, ⟨⟨_, rfl, sm_of _ (by decide +kernel)⟩, ⟨⟨_, rfl, sm_of _ (by decide +kernel)⟩, ⟨⟨_, rfl, sm_of _ (by decide +kernel)⟩, ⟨⟨_, rfl, sm_of _ (by decide +kernel)⟩, ⟨⟨_, rfl, sm_of _ (by decide +kernel)⟩, ⟨⟨_, rfl, sm_of _ (by decide +kernel)⟩, ⟨⟨_, rfl, sm_of _ (by decide +kernel)⟩, ⟨⟨_, rfl, sm_of _ (by decide +kernel)⟩, ⟨⟨_, rfl, sm_of _ (by decide +kernel)⟩, True.intro⟩⟩⟩⟩⟩⟩⟩⟩⟩⟩⟩⟩⟩⟩⟩⟩⟩⟩⟩⟩⟩⟩⟩⟩⟩⟩⟩⟩⟩⟩⟩⟩⟩⟩⟩⟩⟩⟩⟩⟩⟩⟩⟩⟩⟩, wn⟩
  rw [u_l_edges, x_run _ _ _ _ rfl, b_l_edges]
  generalize (ns.take 9).map (fun s => PyData.str (s ++ ("\n" : Str))) = G9 at *
  generalize (ns.take 12).map (fun s => PyData.str ((" ns." : Str) ++ s)) = G12 at *
  generalize (ns.take 9).map PyData.str = H9 at *
  generalize (ns.take 12).map PyData.str = H12 at *
  generalize ns.map PyData.str = N at *
  cases rv with
  | v y =>
    have erv2 : (RV.v y).d = y := rfl
    rw [erv2] at erv
    subst erv
    simp [en, x9, x12, t0, t1, t9, t12, j9, j12, lc9, lc12, a1, a2, a3, a4, ag, b1, b2, b3, b4, b5, c1, c2, d1', d2', d3', d4', z0, z1, z2, z3, z4, z5]
  | o y =>
    have erv2 : (RV.o y).d = y := rfl
    rw [erv2] at erv
    subst erv
    simp [en, x9, x12, t0, t1, t9, t12, j9, j12, lc9, lc12, a1, a2, a3, a4, ag, b1, b2, b3, b4, b5, c1, c2, d1', d2', d3', d4', z0, z1, z2, z3, z4, z5]
end K72
namespace K72
open PySem PySem.Spec L2 Z
open PyProof.Rows hiding St

/-! ## the law -/
theorem big_pos : 0 < Lt.big := by
  unfold Lt.big
  exact Nat.pow_pos (by omega)
abbrev odds : List D := [.none, .int 7, .bool true, .tuple [], .list [], .dict [], .tuple [.str "serial 1\n"], .list [.str "serial 1\n"]]
theorem right_run {d : D} (hd : Well d) : ∃ d', F_l_right.run [d] = some (.v (.bool true), [d']) := by
  obtain ⟨L, d1, e1, aL, w1⟩ := edges_run hd
  obtain ⟨ts, rfl, ht⟩ := allS_of aL
  obtain ⟨d2, t1, e2, w2⟩ := edge_loop none none none none none ts d1 none w1 ht
  obtain ⟨d3, t2, e3, w3⟩ := odd_loop t1 none none none none odds d2 none w2 (by
    intro x hx
    simp only [odds, List.mem_cons, List.not_mem_nil, or_false] at hx
    rcases hx with rfl | rfl | rfl | rfl | rfl | rfl | rfl | rfl <;> rfl)
  obtain ⟨d4, s1, s3, s4, s5, s6, e4, w4⟩ := turns_loop t2 (Z.upTo 0 4) d3 t1 none none none none w3
  have up : rng1 [.int 4] = some (Z.upTo 0 4) := x_rng1 (j := 4) (by omega) (by omega)
  refine ⟨d4, ?_⟩
  rw [u_l_right, x_run _ _ _ _ rfl, b_l_right]
  generalize Z.upTo 0 4 = U at *
  generalize ts.map PyData.str = L at *
  have e3 : forL (gN [0] 2) q_l_right_3 [.none, .int 7, .bool true, .tuple [], .list [], .dict [], .tuple [.str "serial 1\n"], .list [.str "serial 1\n"]] [some (.o d2), t1, none, none, none, none, none] = some (.nx, [some (.o d3), t1, t2, none, none, none, none]) := e3
  have dn : dcD [] = ([] : List (D × D)) := rfl
  simp [e1, e2, e3, up, e4, eDic, dn]
theorem well_run (ns : List Int) (lap : Int) (hl : ns.length ≤ 63) (hb : ∀ z ∈ ns, z.natAbs < Lt.big) (l0 : 0 ≤ lap) (l1 : lap < 4) : ∃ d, F_l_well.run [.list (ns.map .int), .int lap] = some (.o d, []) ∧ Well d := by
  have own : ∃ own : Int, own.natAbs < Lt.big ∧ ((lap < ns.length ∧ atI (ns.map PyData.int) lap = some (.int own)) ∨ (¬ lap < ns.length ∧ own = 0)) := by
    by_cases c : lap < ns.length
    · have e : atI (ns.map PyData.int) lap = some (.int ns[lap.toNat]) := by
        have := atI_of (xs := ns.map .int) (j := lap.toNat)
        rw [Int.toNat_of_nonneg l0] at this
        rw [this, List.getElem?_map, List.getElem?_eq_getElem (by omega)]; rfl
      exact ⟨_, hb _ (List.getElem_mem _), .inl ⟨c, e⟩⟩
    · exact ⟨0, big_pos, .inr ⟨c, rfl⟩⟩
  obtain ⟨own, hown, ho⟩ := own
  have ad : addD (.list ((ns.map PyData.int).take 8)) (.list [.int own]) = some (.o (.list ((ns.map PyData.int).take 8 ++ [.int own]))) := x_addL (by rw [List.length_singleton, List.length_take, List.length_map]; omega)
  have loop : ∀ s : Int, ∃ ρ', forL (gN [] 4) q_l_well_1 ((ns.map PyData.int).take 8 ++ [.int own]) [some (.v (.list (ns.map .int))), some (.v (.int lap)), some (.v (.int own)), some (.v (.int s)), none] = some (.nx, ρ') ∧
      (∀ e ∈ ([] : List D), ∃ i : Int, e = .int i) ∧ ∃ (s : Int) (x : Option RV), ρ' = [some (.v (.list (ns.map .int))), some (.v (.int lap)), some (.v (.int own)), some (.v (.int s)), x] := by
    intro s
    refine forL_st (I := fun ds ρ => (∀ e ∈ ds, ∃ i : Int, e = .int i) ∧ ∃ (s : Int) (x : Option RV), ρ = [some (.v (.list (ns.map .int))), some (.v (.int lap)), some (.v (.int own)), some (.v (.int s)), x]) (fun e ds ρ hI => ?_) _ _ ⟨fun e h => ?_, s, none, rfl⟩
    · obtain ⟨hm, s, x, rfl⟩ := hI
      obtain ⟨i, rfl⟩ := hm e List.mem_cons_self
      exact ⟨_, by simp; rfl, [some (.v (.list (ns.map .int))), some (.v (.int lap)), some (.v (.int own)), some (.v (.int ((s * 44497 + i % 2147483587 + 29) % 2147483563))), some (.v (.int i))], by (first | (simp (implicitDefEqProofs := false) [q_l_well_1]; done) | simp [q_l_well_1]), fun e h => hm e (List.mem_cons_of_mem _ h), _, _, rfl⟩
    · rcases List.mem_append.mp h with h | h
      · obtain ⟨i, _, e⟩ := List.mem_map.mp (List.mem_of_mem_take h)
        exact ⟨i, e.symm⟩
      · exact ⟨own, List.mem_singleton.mp h⟩
  obtain ⟨ρ', h1, _, s, x, rfl⟩ := loop (52027 + 6971 * lap)
  refine ⟨.list [.int (if own < 0 ∨ 1000000000000000000 ≤ own then (if own < 0 then -own else own) else 0), .int s, .int 0], ?_, ⟨if own < 0 ∨ 1000000000000000000 ≤ own then (if own < 0 then -own else own) else 0, s, 0⟩, rfl, by dsimp only; split <;> (try split) <;> omega, by have := big_pos; dsimp only; split <;> (try split) <;> omega⟩
  rw [u_l_well, x_run _ _ _ _ rfl, b_l_well]
  rcases ho with ⟨c, e⟩ | ⟨c, rfl⟩
  · by_cases c1 : own < 0
    · (first | (simp (implicitDefEqProofs := false) [-x_addLs, -List.map_take, c, e, ad, h1, c1]; done) | simp [-x_addLs, -List.map_take, c, e, ad, h1, c1])
    · by_cases c2 : 1000000000000000000 ≤ own <;> (first | (simp (implicitDefEqProofs := false) [-x_addLs, c, e, ad, h1, c1, c2]; done) | simp [-x_addLs, c, e, ad, h1, c1, c2])
  · (first | (simp (implicitDefEqProofs := false) [-x_addLs, c, ad, h1]; done) | simp [-x_addLs, c, ad, h1])
theorem lc_run (ns : List Int) (hl : ns.length ≤ 63) (hb : ∀ z ∈ ns, z.natAbs < Lt.big) (k : Nat) (hk4 : k ≤ 4) : lcL [1] (gN [] 1) bYes q_law_1 (Z.upTo 0 k) [some (.v (.list (ns.map .int))), none] [] = some ((Z.upTo 0 k).map (fun _ => .bool true), [some (.v (.list (ns.map .int))), none]) := by
  have len : (Z.upTo 0 k).length = k := by unfold Z.upTo; rw [List.length_map, List.length_range]
  refine lcL_map (fun _ => .bool true) (by rw [len]; omega) fun d hd => ?_
  obtain ⟨i, rfl, i0, i1⟩ := up_get hd
  obtain ⟨w, h1, hw⟩ := well_run ns i hl hb i0 (by omega)
  obtain ⟨d', h2⟩ := right_run hw
  exact ⟨[some (.v (.list (ns.map .int))), some (.v (.int i))], _, .v (.bool true), [some (.v (.list (ns.map .int))), some (.v (.int i))], by simp, rfl, by (first | (simp (implicitDefEqProofs := false) [q_law_1, h1, h2]; done) | simp [q_law_1, h1, h2]), rfl, by simp⟩
theorem rng_k (k : Nat) (h : k ≤ 4) : rng1 [.int (k : Int)] = some (Z.upTo 0 k) := x_rng1 (j := (k : Int)) (by omega) (by omega)
theorem all_k (k : Nat) : allD [.list ((Z.upTo 0 k).map fun _ => .bool true)] = some (.v (.bool true)) := by
  have e2 := x_all (boolsOf_mp (fun _ => true) (Z.upTo 0 k))
  have e3 : ((Z.upTo 0 k).map fun _ => true).all id = true := by simp
  rw [e3] at e2
  exact e2
theorem arg_k (ns : List Int) : ∃ k : Nat, k ≤ 4 ∧ eB maxD (osCons (oTv (eC (.int 2))) (osCons (oTv (eB minD (osCons (oTv (eB lenD (osCons (oSl 0) osNil))) (osCons (oTv (eC (.int 4))) osNil)))) osNil)) [some (.v (.list (ns.map .int))), none] = some (.v (.int k), [some (.v (.list (ns.map .int))), none]) := by
  by_cases c : (4 : Int) < (ns.length : Int)
  · exact ⟨4, by omega, by (first | (simp (implicitDefEqProofs := false) [c]; done) | simp [c])⟩
  · by_cases c2 : (2 : Int) < (ns.length : Int)
    · exact ⟨ns.length, by omega, by (first | (simp (implicitDefEqProofs := false) [c, c2]; done) | simp [c, c2])⟩
    · exact ⟨2, by omega, by (first | (simp (implicitDefEqProofs := false) [c, c2]; done) | simp [c, c2])⟩
theorem law_true (ns : List Int) (hl : ns.length ≤ 63) (hb : ∀ z ∈ ns, z.natAbs < Lt.big) : F_law.run [.list (ns.map .int)] = some (.v (.bool true), []) := by
  obtain ⟨k, hk4, ha⟩ := arg_k ns
  have lc := lc_run ns hl hb k hk4
  rw [u_law, x_run _ _ _ _ rfl, b_law]
  generalize hq : eB maxD (osCons (oTv (eC (.int 2))) (osCons (oTv (eB minD (osCons (oTv (eB lenD (osCons (oSl 0) osNil))) (osCons (oTv (eC (.int 4))) osNil)))) osNil)) = q at ha
  (first | (simp (implicitDefEqProofs := false) [ha, rng_k k hk4, lc, all_k]; done) | simp [ha, rng_k k hk4, lc, all_k])
end K72
open PySem PySem.W PySem.Calls PyProof.Rows
theorem PySem.Challenge.cw_namelease_k72_whole_texts_of_versions_holds : PySem.Challenge.rw_namelease_k72_whole_texts_of_versions.Holds := by
  w_on; o_law
  refine HandSHeadRun.head_any (r := K72.row) (q := view K72.row.prog [73])
    (H := K72.hk) (ob := K72.ob) (M := 9000) (loose := K72.ls)
    (d := HandSHeadRun.topDef K72.row.prog 73) (kwd := []) K72.ob_eq
    (by kernel_rfl) (fun s => by kernel_rfl)
    K72.run (by kernel_rfl)
    (by kernel_rfl) (by kernel_rfl) (by rfl)
    (by first | assumption | decide +kernel)
    (by decide +kernel)
    ⟨rfl, rfl, rfl, rfl, rfl, by decide +kernel⟩ ?hw ?hc
  case hw => w_witness2
  case hc =>
    refine Z.walk_ofEB (l := PySem.Challenge.rw_namelease_k72_whole_texts_of_versions) (n := 63) (k := 64)
      (x := "script") (CX := L2.CX0) rfl (by decide) (by kernel_rfl)
      ⟨rfl, by decide, by decide⟩ ?F (fun _ _ _ _ z => z)
    intro w mg fa h Y G hg0
    obtain ⟨K, KX, c, cc, ce, cw⟩ := Y
    have hg : mg ("law" : PySem.Str) = some (.ref fa) := by
      have e : (HandSHeadRun.topDef K72.row.prog 73).name = ("law" : PySem.Str) := by kernel_rfl
      rw [← e]; exact hg0
    obtain ⟨fd, hb, hF⟩ := K72.facts (P := (PySem.Challenge.rw_namelease_k72_whole_texts_of_versions).prog) (w := w) KX G hg c cc ce cw (by kernel_rfl) (by kernel_rfl)
    exact ⟨K, fd, Z.spF K K72.F_law, KX, hb, fun H a ns hl hbits _ hS => Z.sp_script rfl (K72.law_true ns hl fun z hz => Z.bits_lt (hbits z hz)) hS fun _ => rfl, hF⟩
