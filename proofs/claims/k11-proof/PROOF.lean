import PyProof.Rows.All
import Wide.All
import OpenK.AllK
import Wide.FinOn
import HandS.ForMost
import HandS.IsInst
import HandS.Wide
import HandS.WideBits
import HandS.TupAny
import HandS.Zip
import HandS.Deep
import HandS.WordsDict
import HandS.Walk
import HandS.TupLe
import HandS.Rev
import HandS.Defaults
import HandS.Head0
import HandS.Head1
import HandS.Head2
import HandS.HeadEnd
import HandS.HeadHook1
import HandS.HeadHook2
import HandS.More
import HandS.EndBits
import HandS.DictComp
import HandS.FStr
import HandS.SortKw
import HandS.Lambda
import HandS.CallLocal
import HandS.TryMany
import HandS.ExcField
import KE.KExcSuper
import HandS.ExcInit
import HandS.Sort
import KE.DataCmp
import HandS.Dict
import KE.KEqNest
import HandS.TupMul
import KE.SortData
import HandS.DeepEq
import HandS.Iter
import PyProof.ZipIter
import PyProof.EnumIter
import PyProof.EnumMake
import PyProof.Draws
import PyProof.StrWalks
import HandS.Conv
import HandS.Style
import HandS.ExcOwn
import HandS.WordsExc
import PyProof.StrLawsTight
import PyProof.StrLawsChain
import PyProof.Rows.StrItems
import PyProof.Rows.StrSplitJoin
import PySem.Challenge.RW_namelease_k11_whole_rules_and_letters_re
set_option Elab.async false
set_option linter.all false
set_option autoImplicit false
set_option maxRecDepth 100000
set_option maxHeartbeats 0
namespace Z
open PySem PySem.Spec L2
open PyProof.Rows hiding St

/-! ## the head's looks: what the module holds -/
abbrev D := PyData
def datsB (f : D → Value → Bool) : List D → List Value → Bool
  | [], [] => true
  | d :: ds, u :: us => f d u && datsB f ds us
  | _, _ => false
def datB (K : PySem.W.Frag) : Nat → D → Value → Bool
  | _, .none, u => He.relB .non u
  | _, .bool b, u => He.relB (.bl b) u
  | _, .int i, u => He.relB (.int i) u
  | _, .str s, u => PyData.strOk s && He.relB (.str s) u
  | n + 1, .tuple ds, .ref a => match K.lookup a with
    | some ⟨.type c, _, .seq its _, _⟩ => decide (c = "tuple") && (decide (its.size ≤ sizeLine) && datsB (datB K n) ds its.toList)
    | _ => false
  | _, _, _ => false
def datG (K : PySem.W.Frag) (q : Str × D) : Bool := match PySem.W.nsIn K mainGlobals q.1 with
  | some (some u) => datB K 6 q.2 u
  | _ => false
def exC (cs : List (Str × D)) (K : PySem.W.Frag) : Bool := cs.all (datG K)
/-! ## the head's looks -/
open He in
def hookC (n : Nat) (fa : List Fa) (fn : List DefD) (cs : List (Str × D)) : PySem.W.Hook where
  α := AlD × Bool
  obs := fun s => (obsDG n fa fn s.heap.get?, exC cs (frG s.heap.get? (asD s.heap.get? n)))
  val := fun _ => (valD fn, true)
  says := fun _ h => ∃ K : PySem.W.Frag, K.In h ∧ SaysD fa fn K ∧ exC cs K = true
  of := fun _ _ e => ⟨_, frG_in, congrArg Prod.fst e, congrArg Prod.snd e⟩
  keeps := fun _ _ _ ⟨K, hK, c⟩ k => ⟨K, PySem.W.Frag.In.keeps hK k, c⟩
open He in
def obC (n : Nat) (fa : List Fa) (fn : List DefD) (cs : List (Str × D)) (g : Addr → Option Obj) : AlD × Bool := (obsDG n fa fn g, exC cs (frG g (asD g n)))
open He in
theorem obC_eq {n : Nat} {fa : List Fa} {fn : List DefD} {cs : List (Str × D)} {g : Addr → Option Obj} {s : Shared} (h : ∀ a, g a = s.heap.get? a) : obC n fa fn cs g = (hookC n fa fn cs).obs s := by
  have e : g = s.heap.get? := funext h
  rw [e] <;> rfl
theorem exC_at {cs : List (Str × D)} {K : PySem.W.Frag} (h : exC cs K = true) (i : Nat) {q : Str × D} (e : cs[i]? = some q := by rfl) : datG K q = true := List.all_eq_true.mp h q (List.mem_of_getElem? e)
end Z
namespace Z
open PySem PySem.Spec L2
open PyProof.Rows hiding St
open He

/-! ## the head's looks: own errors with an __init__ that says super().__init__() -/
structure ClsD where
  x : Str
  qual : Str
  fld : Str
  gv : Str
  st : Stmt
abbrev veL : List Value := [.type "ValueError", .type "Exception", .type "BaseException", .type "object"]
def ClsD.C (K : PySem.W.Frag) (d : ClsD) : Addr := ga K d.x
def ClsD.fI (K : PySem.W.Frag) (d : ClsD) : Addr := ma K (ga K d.x) "__init__"
abbrev IniW : Type := Option (Str × Str × Arguments × FuncBody × Scope × Addr × List Str × Addr)
def iniW (K : PySem.W.Frag) (d : ClsD) : IniW := match K.lookup (d.fI K) with
  | some ⟨_, _, .func fd, _⟩ => some (fd.name, fd.qualname, fd.params, fd.body, fd.scope, fd.globals, fd.closure.map (·.1), fd.builtins)
  | _ => none
def ClsD.val (d : ClsD) : IniW := some ("__init__", d.qual, defArgs d.st, .stmts (defBody d.st), defScope d.st, mainGlobals, ["__class__"], builtinsNs)
def codB (K : PySem.W.Frag) (file : Str) : Value → Bool
  | .ref c => (match K.lookup c with
    | some ⟨_, _, .fields vs, _⟩ => (match vs.toList with
      | _ :: _ :: .str f _ :: _ => file == f
      | _ => false)
    | _ => false)
  | _ => false
def celB (K : PySem.W.Frag) (C : Addr) : List (Str × Addr) → Bool
  | [(_, c)] => (match K.lookup c with
    | some ⟨_, _, .cell (some (.ref a)), _⟩ => a == C
    | _ => false)
  | _ => false
def noneB : Value → Bool
  | .none => true
  | _ => false
def fnB (K : PySem.W.Frag) (file : Str) (d : ClsD) : Bool := match K.lookup (d.fI K) with
  | some ⟨.type c, _, .func fd, _⟩ => decide (c = "function") && (PySem.W.codeIn K fd.code d.qual && (codB K file fd.code && (celB K (d.C K) fd.closure && noneB fd.defaults)))
  | _ => false
def clsB (K : PySem.W.Frag) (C : Addr) : Bool := match K.lookup C with
  | some ⟨.type c, _, .cls cd, sl⟩ => decide (c = "type") && (cd.hasDict && (match cd.mro, sl.toList with
    | .ref C' :: bm, [_, _, _, _, some (.builtin n), _] => C' == C && (n == "ValueError.__new__" && (!cd.hasDel && PySem.HandSPX.refsVE bm))
    | _, _ => false))
  | _ => false
def ClsD.ok (K : PySem.W.Frag) (file : Str) (d : ClsD) : Bool :=
  eqO (PySem.W.nsIn K mainGlobals d.x) (some (some (.ref (d.C K)))) && (eqO (PySem.W.findIn K (.ref (d.C K)) "__init__") (some (some (.ref (d.fI K)))) && (fnB K file d && (clsB K (d.C K) && (PySem.W.excInitIn K (d.C K) veL "ValueError.__new__" &&
  (eqO (PySem.W.findIn K (.ref (d.C K)) d.fld) (some none) && (eqO (PySem.W.ks_superIn K (d.C K) (d.C K) "__init__") (some (some (.builtin "ValueError.__init__"))) && (decide (PySem.W.subIn K (.ref (d.C K)) (.type "ValueError") = some true) &&
  (decide (PySem.W.mroIn K (d.C K) (.ref (d.C K)) = some true) && (eqO (PySem.W.nsIn K cStatics "thirdparty.any") (some none) && (eqO (PySem.W.findIn K (.ref (d.C K)) "__setattr__") (some (some (.builtin "object.__setattr__"))) &&
  (decide (PySem.W.subIn K (.ref (d.C K)) (.type "BaseException") = some true) && (decide (PySem.W.typeIn K (.ref (d.C K)) = some (.type "type")) && (PySem.W.keepIn K (.ref (d.C K)) && (xfB K (d.C K) &&
  (decide (PySem.W.exmOne K (.ref (d.C K)) (.ref (d.C K)) = some true) && eqO (PySem.W.nsIn K mainGlobals "super") (some none))))))))))))))))
abbrev AlX : Type := AlD × Bool × Bool × List IniW
def obsX (file : Str) (fa : List Fa) (fn : List DefD) (cs : List (Str × D)) (es : List ClsD) (K : PySem.W.Frag) : AlX := (obsD fa fn K, exC cs K, es.all (ClsD.ok K file), es.map (iniW K))
def frX (g : Addr → Option Obj) (n : Nat) : PySem.W.Frag := frG g (asD g n ++ [cStatics])
def hookX (n : Nat) (file : Str) (fa : List Fa) (fn : List DefD) (cs : List (Str × D)) (es : List ClsD) : PySem.W.Hook where
  α := AlX
  obs := fun s => obsX file fa fn cs es (frX s.heap.get? n)
  val := fun _ => (valD fn, true, true, es.map ClsD.val)
  says := fun _ h => ∃ K : PySem.W.Frag, K.In h ∧ SaysD fa fn K ∧ exC cs K = true ∧ es.all (ClsD.ok K file) = true ∧ es.map (iniW K) = es.map ClsD.val
  of := fun _ s e => ⟨frX s.heap.get? n, frG_in, congrArg (fun z : AlX => z.1) e, congrArg (fun z : AlX => z.2.1) e, congrArg (fun z : AlX => z.2.2.1) e, congrArg (fun z : AlX => z.2.2.2) e⟩
  keeps := fun _ _ _ ⟨K, hK, c⟩ k => ⟨K, PySem.W.Frag.In.keeps hK k, c⟩
def obX (n : Nat) (file : Str) (fa : List Fa) (fn : List DefD) (cs : List (Str × D)) (es : List ClsD) (g : Addr → Option Obj) : AlX := obsX file fa fn cs es (frX g n)
theorem obX_eq {n : Nat} {file : Str} {fa : List Fa} {fn : List DefD} {cs : List (Str × D)} {es : List ClsD} {g : Addr → Option Obj} {s : Shared} (h : ∀ a, g a = s.heap.get? a) : obX n file fa fn cs es g = (hookX n file fa fn cs es).obs s := by
  have e : g = s.heap.get? := funext h
  rw [e] <;> rfl
/-- the first def of a class's body -/
def initOf : Stmt → Stmt
  | .ClassDef _ _ _ body _ _ _ _ _ _ _ => body.getD 0 (.Pass ⟨0, 0, 0, 0⟩)
  | _ => .Pass ⟨0, 0, 0, 0⟩
end Z
namespace Z
open PySem PySem.Spec L2
open PyProof.Rows hiding St
open He

/-! ## a part of the heap, each address once: by a number's bits, which the kernel reckons fast -/
def dedupB : List Addr → Nat → List Addr
  | [], _ => []
  | a :: r, m => match Nat.beq (Nat.land (Nat.shiftRight m a) 1) 0 with
    | true => a :: dedupB r (Nat.lor m (Nat.shiftLeft 1 a))
    | false => dedupB r m
def growY (g : Addr → Option Obj) (as : List Addr) : List Addr := dedupB (as ++ as.flatMap fun a => match g a with
  | some o => refsD o
  | none => []) 0
def asY (g : Addr → Option Obj) : Nat → List Addr
  | 0 => [mainGlobals]
  | n + 1 => growY g (asY g n)
def frY (g : Addr → Option Obj) (n : Nat) : PySem.W.Frag := frG g (asY g n ++ [cStatics])
/-! ## the head's looks: own errors, which stands under which -/
def pairsB (K : PySem.W.Frag) (es : List ClsD) (bs : List Str) : Bool := es.all fun d => (es.all fun e => decide (PySem.W.exmOne K (.ref (d.C K)) (.ref (e.C K)) = some (decide (d.x = e.x)))) &&
  (bs.all fun b => eqO (PySem.W.nsIn K mainGlobals b) (some (some (.ref (ga K b)))) && decide (PySem.W.exmOne K (.ref (d.C K)) (.ref (ga K b)) = some true))
def obsY (file : Str) (fa : List Fa) (fn : List DefD) (cs : List (Str × D)) (es : List ClsD) (bs : List Str) (K : PySem.W.Frag) : AlX := (obsD fa fn K, exC cs K, es.all (ClsD.ok K file) && pairsB K es bs, es.map (iniW K))
def hookY (n : Nat) (file : Str) (fa : List Fa) (fn : List DefD) (cs : List (Str × D)) (es : List ClsD) (bs : List Str) : PySem.W.Hook where
  α := AlX
  obs := fun s => obsY file fa fn cs es bs (frY s.heap.get? n)
  val := fun _ => (valD fn, true, true, es.map ClsD.val)
  says := fun _ h => ∃ K : PySem.W.Frag, K.In h ∧ SaysD fa fn K ∧ exC cs K = true ∧ (es.all (ClsD.ok K file) && pairsB K es bs) = true ∧ es.map (iniW K) = es.map ClsD.val
  of := fun _ s e => ⟨frY s.heap.get? n, frG_in, congrArg (fun z : AlX => z.1) e, congrArg (fun z : AlX => z.2.1) e, congrArg (fun z : AlX => z.2.2.1) e, congrArg (fun z : AlX => z.2.2.2) e⟩
  keeps := fun _ _ _ ⟨K, hK, c⟩ k => ⟨K, PySem.W.Frag.In.keeps hK k, c⟩
def obY (n : Nat) (file : Str) (fa : List Fa) (fn : List DefD) (cs : List (Str × D)) (es : List ClsD) (bs : List Str) (g : Addr → Option Obj) : AlX := obsY file fa fn cs es bs (frY g n)
theorem obY_eq {n : Nat} {file : Str} {fa : List Fa} {fn : List DefD} {cs : List (Str × D)} {es : List ClsD} {bs : List Str} {g : Addr → Option Obj} {s : Shared} (h : ∀ a, g a = s.heap.get? a) : obY n file fa fn cs es bs g = (hookY n file fa fn cs es bs).obs s := by
  have e : g = s.heap.get? := funext h
  rw [e] <;> rfl
/-! ## the head's run in parts, so that the kernel needs less memory at a time -/
theorem opt3 {α β γ δ : Type} {x : Option α} {A : α → β} {B : α → γ} {C : α → δ} {a : β} {b : γ} {c : δ} (h1 : x.map A = some a) (h2 : x.map B = some b) (h3 : x.map C = some c) : x.map (fun s => (A s, B s, C s)) = some (a, b, c) := by
  cases x with
  | none => cases h1
  | some s =>
    have h1 : some (A s) = some a := h1
    have h2 : some (B s) = some b := h2
    have h3 : some (C s) = some c := h3
    cases h1; cases h2; cases h3
    rfl
theorem opt2 {α β γ : Type} {x : Option α} {f : α → β × γ} {a : β} {b : γ} (h1 : x.map (fun s => (f s).1) = some a) (h2 : x.map (fun s => (f s).2) = some b) : x.map f = some (a, b) := by
  cases x with
  | none => cases h1
  | some s =>
    have h1 : some (f s).1 = some a := h1
    have h2 : some (f s).2 = some b := h2
    cases h1; cases h2
    rfl
end Z
namespace K11
open PySem PySem.Spec L2 Z
open PyProof.Rows hiding St
abbrev row : PySem.W.OpenRow := PySem.W.OpenLaw.row PySem.Challenge.rw_namelease_k11_whole_rules_and_letters_re
def tp (i : Nat) : Stmt := PySem.Challenge.pw_namelease_k11_whole_rules_and_letters_re.main.body.getD i (.Pass ⟨0, 0, 0, 0⟩)
def C_DEEDS : D := (.tuple [(.str "create"), (.str "renew"), (.str "redeem"), (.str "delete"), (.str "lock"), (.str "unlock"), (.str "code"), (.str "take"), (.str "guess"), (.str "agree"), (.str "refuse")])
abbrev s_figures : Stmt := tp 22
abbrev s_rules_follow : Stmt := tp 23
abbrev s_l_pool : Stmt := tp 34
abbrev s_l_below : Stmt := tp 35
abbrev s_l_one : Stmt := tp 36
abbrev s_l_great_plan : Stmt := tp 37
abbrev s_l_bent_text : Stmt := tp 40
abbrev s_l_same : Stmt := tp 41
abbrev s_begins_some : Stmt := tp 24
abbrev s_words_of : Stmt := tp 25
abbrev s_rules_by : Stmt := tp 26
abbrev s_check_text : Stmt := tp 30
abbrev s_read_rules : Stmt := tp 31
abbrev s_letter_by : Stmt := tp 27
abbrev s_letters_by : Stmt := tp 28
abbrev s_read_letters : Stmt := tp 32
abbrev s_l_rules_due : Stmt := tp 43
abbrev s_l_deeds : Stmt := tp 38
abbrev s_l_letters_due : Stmt := tp 44
abbrev s_l_letters : Stmt := tp 39
abbrev s_l_rows_text : Stmt := tp 45
abbrev s_l_told : Stmt := tp 42
abbrev s_l_right : Stmt := tp 46
abbrev s_law : Stmt := tp 47
def d_figures : He.DefD := ⟨("figures", none), "figures", "figures", defArgs s_figures, defBody s_figures, defScope s_figures, [], []⟩
def d_rules_follow : He.DefD := ⟨("rules_follow", none), "rules_follow", "rules_follow", defArgs s_rules_follow, defBody s_rules_follow, defScope s_rules_follow, [], []⟩
def d_l_pool : He.DefD := ⟨("_law_pool", none), "_law_pool", "_law_pool", defArgs s_l_pool, defBody s_l_pool, defScope s_l_pool, [], []⟩
def d_l_below : He.DefD := ⟨("_law_below", none), "_law_below", "_law_below", defArgs s_l_below, defBody s_l_below, defScope s_l_below, [], []⟩
def d_l_one : He.DefD := ⟨("_law_one", none), "_law_one", "_law_one", defArgs s_l_one, defBody s_l_one, defScope s_l_one, [], []⟩
def d_l_great_plan : He.DefD := ⟨("_law_great_plan", none), "_law_great_plan", "_law_great_plan", defArgs s_l_great_plan, defBody s_l_great_plan, defScope s_l_great_plan, [], []⟩
def d_l_bent_text : He.DefD := ⟨("_law_bent_text", none), "_law_bent_text", "_law_bent_text", defArgs s_l_bent_text, defBody s_l_bent_text, defScope s_l_bent_text, [], []⟩
def d_l_same : He.DefD := ⟨("_law_same", none), "_law_same", "_law_same", defArgs s_l_same, defBody s_l_same, defScope s_l_same, [], []⟩
def d_begins_some : He.DefD := ⟨("begins_some", none), "begins_some", "begins_some", defArgs s_begins_some, defBody s_begins_some, defScope s_begins_some, [], []⟩
def d_words_of : He.DefD := ⟨("words_of", none), "words_of", "words_of", defArgs s_words_of, defBody s_words_of, defScope s_words_of, [], []⟩
def d_rules_by : He.DefD := ⟨("rules_by", none), "rules_by", "rules_by", defArgs s_rules_by, defBody s_rules_by, defScope s_rules_by, [], []⟩
def d_check_text : He.DefD := ⟨("check_text", none), "check_text", "check_text", defArgs s_check_text, defBody s_check_text, defScope s_check_text, [], []⟩
def d_read_rules : He.DefD := ⟨("read_rules", none), "read_rules", "read_rules", defArgs s_read_rules, defBody s_read_rules, defScope s_read_rules, [], []⟩
def d_letter_by : He.DefD := ⟨("letter_by", none), "letter_by", "letter_by", defArgs s_letter_by, defBody s_letter_by, defScope s_letter_by, [], []⟩
def d_letters_by : He.DefD := ⟨("letters_by", none), "letters_by", "letters_by", defArgs s_letters_by, defBody s_letters_by, defScope s_letters_by, [], []⟩
def d_read_letters : He.DefD := ⟨("read_letters", none), "read_letters", "read_letters", defArgs s_read_letters, defBody s_read_letters, defScope s_read_letters, [], []⟩
def d_l_rules_due : He.DefD := ⟨("_law_rules_due", none), "_law_rules_due", "_law_rules_due", defArgs s_l_rules_due, defBody s_l_rules_due, defScope s_l_rules_due, [], []⟩
def d_l_deeds : He.DefD := ⟨("_law_deeds", none), "_law_deeds", "_law_deeds", defArgs s_l_deeds, defBody s_l_deeds, defScope s_l_deeds, [], []⟩
def d_l_letters_due : He.DefD := ⟨("_law_letters_due", none), "_law_letters_due", "_law_letters_due", defArgs s_l_letters_due, defBody s_l_letters_due, defScope s_l_letters_due, [], []⟩
def d_l_letters : He.DefD := ⟨("_law_letters", none), "_law_letters", "_law_letters", defArgs s_l_letters, defBody s_l_letters, defScope s_l_letters, [], []⟩
def d_l_rows_text : He.DefD := ⟨("_law_rows_text", none), "_law_rows_text", "_law_rows_text", defArgs s_l_rows_text, defBody s_l_rows_text, defScope s_l_rows_text, [], []⟩
def d_l_told : He.DefD := ⟨("_law_told", none), "_law_told", "_law_told", defArgs s_l_told, defBody s_l_told, defScope s_l_told, [], []⟩
def d_l_right : He.DefD := ⟨("_law_right", none), "_law_right", "_law_right", defArgs s_l_right, defBody s_l_right, defScope s_l_right, [], []⟩
def d_law : He.DefD := ⟨("law", none), "law", "law", defArgs s_law, defBody s_law, defScope s_law, [], []⟩
def dl : List He.DefD := [d_figures, d_rules_follow, d_l_pool, d_l_below, d_l_one, d_l_great_plan, d_l_bent_text, d_l_same, d_begins_some, d_words_of, d_rules_by, d_check_text, d_read_rules, d_letter_by, d_letters_by, d_read_letters, d_l_rules_due, d_l_deeds, d_l_letters_due, d_l_letters, d_l_rows_text, d_l_told, d_l_right, d_law]
def cst : List (Str × D) := [("MOST_DAYS", (.int 4)), ("MOST_TERM", (.int 9)), ("NO", (.str "no")), ("YES", (.str "yes")), ("DEEDS", C_DEEDS), ("MOST_HOUSE", (.int 3)), ("MOST_LETTERS", (.int 6))]
def fcs : List He.Fa := [.glo "figures", .glo "rules_follow", .glo "_law_pool", .glo "_law_below", .glo "_law_one", .glo "_law_great_plan", .glo "_law_bent_text", .glo "_law_same", .glo "begins_some", .glo "words_of", .glo "rules_by", .glo "check_text", .glo "read_rules", .glo "letter_by", .glo "letters_by", .glo "read_letters", .glo "_law_rules_due", .glo "_law_deeds", .glo "_law_letters_due", .glo "_law_letters", .glo "_law_rows_text", .glo "_law_told", .glo "_law_right", .glo "law", .free "len", .free "abs", .free "max", .free "min", .free "sum", .free "all", .free "any", .free "divmod", .free "int", .free "tuple", .free "list", .free "isinstance", .free "range", .free "enumerate", .free "zip", .free "bool", .free "str", .free "dict", .free "sorted"]
def fileN : Str := PySem.Challenge.pw_namelease_k11_whole_rules_and_letters_re.main.file
def k_InvalidText : ClsD := ⟨"InvalidText", "InvalidText.__init__", "index", "index", initOf (tp 2)⟩
def els : List ClsD := [k_InvalidText]
def bs_ : List Str := ["LeaseError"]
abbrev hk : PySem.W.Hook := hookY 4 fileN fcs dl cst els bs_
def ob (s : PySem.W.SharedT) : AlX := obY 4 fileN fcs dl cst els bs_ (HandSHeadRun.getT s)
theorem ob_eq (s : PySem.W.SharedT) : ob s = hk.obs s.abs := obY_eq (HandSHeadRun.getT_eq s)
def ls0 : List Str := ["LeaseError", "InvalidText", "CREATE", "RENEW", "REDEEM", "DELETE", "LOCK", "UNLOCK", "CODE", "TAKE", "GUESS", "AGREE", "REFUSE", "DEEDS", "MOST_HOUSE", "MOST_TERM", "MOST_DAYS", "MOST_LETTERS", "YES", "NO"]
def ls1 : List Str := ["figures", "rules_follow", "begins_some", "words_of", "rules_by", "letter_by", "letters_by", "check_text", "read_rules", "read_letters", "_law_pool", "_law_below", "_law_one", "_law_great_plan", "_law_deeds", "_law_letters", "_law_bent_text", "_law_same", "_law_told", "_law_rules_due"]
def ls2 : List Str := ["_law_letters_due", "_law_rows_text", "_law_right"]
def ls : List Str := ls0 ++ ls1 ++ ls2
open PySem.W PySem.Calls HandSHeadRun
theorem runA (w : World) (os : OsState) : ((endF (stepQ (denQ tabQ) row.prog w) 9000 row.prog w os).map fun s => looksF row.prog (boot_heap w.params) s.abs) = some (true) := by kernel_rfl
theorem runB (w : World) (os : OsState) : ((endF (stepQ (denQ tabQ) row.prog w) 9000 row.prog w os).map fun s => seenQ (PySem.W.view row.prog [47]) ls (importedModules row.prog.main.body) (fun s => xlAt (PySem.W.view row.prog [47]) [] s && recOk row.toRowW.records s) s.abs) = some (openGood (PySem.W.view row.prog [47]) ls) := by kernel_rfl
theorem runC (w : World) (os : OsState) : ((endF (stepQ (denQ tabQ) row.prog w) 9000 row.prog w os).map fun s => (ob s).1.1) = some (true) := by kernel_rfl
theorem runD (w : World) (os : OsState) : ((endF (stepQ (denQ tabQ) row.prog w) 9000 row.prog w os).map fun s => (ob s).1.2) = some (dl.map He.DefD.val) := by kernel_rfl
theorem runE (w : World) (os : OsState) : ((endF (stepQ (denQ tabQ) row.prog w) 9000 row.prog w os).map fun s => (ob s).2) = some ((true, true, els.map ClsD.val)) := by kernel_rfl
theorem run (w : World) : HandSHeadRun.RunEq row (PySem.W.view row.prog [47]) hk ob 9000 ls w := fun os => opt3 (runA w os) (runB w os) (opt2 (opt2 (runC w os) (runD w os)) (runE w os))
end K11
namespace Z
open PySem PySem.Spec L2
open PyProof.Rows hiding St

/-! ## data and how a heap shows it -/
inductive RV where
  | v (d : D)
  | o (d : D)
def RV.d : RV → D
  | .v d => d
  | .o d => d
abbrev Rho := List (Option RV)
abbrev AS := Addr → Prop
def kD : L2.Key → D
  | .inl i => .int i
  | .inr s => .str s

def LA (K : PySem.W.Frag) (H : Hp) (O : AS) (a : Addr) (vs : List V) : Prop := (Rd H a (.lst vs) ∧ ¬ O a) ∨ SqL K (fun _ => none) a vs
def TAt (K : PySem.W.Frag) (H : Hp) (O : AS) (a : Addr) (vs : List V) : Prop := (Rd H a (.tup vs) ∧ ¬ O a) ∨ SqT K (fun _ => none) a vs
/-- a def of the module as a value -/
def fnD (nm : Str) : D := .dict [(.none, .str nm)]
def isFn : List (D × D) → Bool
  | [(.none, _)] => true
  | _ => false
def isFv : D → Bool
  | .dict ds => isFn ds
  | _ => false
/-- a text that can be shown -/
def KeyOk : L2.Key → Prop
  | .inl _ => True
  | .inr s => PyData.strOk s = true
mutual
inductive Rep (K : PySem.W.Frag) (H : Hp) (O : AS) : D → V → Prop
  | non : Rep K H O .none .non
  | bl (b : Bool) : Rep K H O (.bool b) (.bl b)
  | int (i : Int) : Rep K H O (.int i) (.int i)
  | str (x : Str) (h : PyData.strOk x = true) : Rep K H O (.str x) (.str x)
  | lst {a : Addr} {vs : List V} {ds : List D} : LA K H O a vs → Reps K H O ds vs → Rep K H O (.list ds) (.ref a)
  | tup {a : Addr} {vs : List V} {ds : List D} : TAt K H O a vs → Reps K H O ds vs → Rep K H O (.tuple ds) (.ref a)
  | dic {a : Addr} {kvs : List (L2.Key × V)} {ds : List (D × D)} : H a = some (.dK kvs) → ¬ O a → RepK K H O ds kvs → Rep K H O (.dict ds) (.ref a)
  | fnc {a : Addr} {nm : Str} : PySem.W.nsIn K mainGlobals nm = some (some (.ref a)) → Rep K H O (.dict [(.none, .str nm)]) (.ref a)
inductive Reps (K : PySem.W.Frag) (H : Hp) (O : AS) : List D → List V → Prop
  | nil : Reps K H O [] []
  | cons {d : D} {v : V} {ds : List D} {vs : List V} : Rep K H O d v → Reps K H O ds vs → Reps K H O (d :: ds) (v :: vs)
inductive RepK (K : PySem.W.Frag) (H : Hp) (O : AS) : List (D × D) → List (L2.Key × V) → Prop
  | nil : RepK K H O [] []
  | cons {k : L2.Key} {d : D} {v : V} {ds : List (D × D)} {vs : List (L2.Key × V)} : KeyOk k → Rep K H O d v → RepK K H O ds vs → RepK K H O ((kD k, d) :: ds) ((k, v) :: vs)
end
/-- what is not owned stays, and stays not owned -/
def Keeps (H : Hp) (O : AS) (H' : Hp) (O' : AS) : Prop := ∀ b o, H b = some o → ¬ O b → H' b = some o ∧ ¬ O' b
theorem Keeps.trans {H H1 H2 : Hp} {O O1 O2 : AS} (a : Keeps H O H1 O1) (b : Keeps H1 O1 H2 O2) : Keeps H O H2 O2 := fun c o h n => let ⟨h1, n1⟩ := a c o h n; b c o h1 n1
theorem Keeps.rfl {H : Hp} {O : AS} : Keeps H O H O := fun _ _ h n => ⟨h, n⟩

section
variable {K : PySem.W.Frag} {H H' : Hp} {O O' : AS} {a : Addr} {vs : List V}
theorem LA.mono (k : Keeps H O H' O') (h : LA K H O a vs) : LA K H' O' a vs := by
  rcases h with ⟨h | ⟨o, h⟩, n⟩ | h
  · exact .inl ⟨.inl (k _ _ h n).1, (k _ _ h n).2⟩
  · exact .inl ⟨.inr ⟨o, (k _ _ h n).1⟩, (k _ _ h n).2⟩
  · exact .inr h
theorem TAt.mono (k : Keeps H O H' O') (h : TAt K H O a vs) : TAt K H' O' a vs := by
  rcases h with ⟨h | ⟨o, h⟩, n⟩ | h
  · exact .inl ⟨.inl (k _ _ h n).1, (k _ _ h n).2⟩
  · exact .inl ⟨.inr ⟨o, (k _ _ h n).1⟩, (k _ _ h n).2⟩
  · exact .inr h
theorem LA.sq (h : LA K H O a vs) : SqL K H a vs := by
  rcases h with ⟨h, _⟩ | (h | h)
  · exact .inl h
  · rcases h with h | ⟨_, h⟩ <;> cases h
  · exact .inr h
theorem TAt.sq (h : TAt K H O a vs) : SqT K H a vs := by
  rcases h with ⟨h, _⟩ | (h | h)
  · exact .inl h
  · rcases h with h | ⟨_, h⟩ <;> cases h
  · exact .inr h
mutual
theorem Rep.mono (k : Keeps H O H' O') : ∀ {d : D} {v : V}, Rep K H O d v → Rep K H' O' d v
  | _, _, .non => .non
  | _, _, .bl b => .bl b
  | _, _, .int i => .int i
  | _, _, .str x h => .str x h
  | _, _, .lst h r => .lst (h.mono k) (Reps.mono k r)
  | _, _, .tup h r => .tup (h.mono k) (Reps.mono k r)
  | _, _, .dic h n r => .dic (k _ _ h n).1 (k _ _ h n).2 (RepK.mono k r)
  | _, _, .fnc h => .fnc h
theorem Reps.mono (k : Keeps H O H' O') : ∀ {ds : List D} {vs : List V}, Reps K H O ds vs → Reps K H' O' ds vs
  | _, _, .nil => .nil
  | _, _, .cons r t => .cons (Rep.mono k r) (Reps.mono k t)
theorem RepK.mono (k : Keeps H O H' O') : ∀ {ds : List (D × D)} {vs : List (L2.Key × V)}, RepK K H O ds vs → RepK K H' O' ds vs
  | _, _, .nil => .nil
  | _, _, .cons h r t => .cons h (Rep.mono k r) (RepK.mono k t)
end
mutual
/-- no dict within -/
def noDict : D → Bool
  | .list ds => noDicts ds
  | .tuple ds => noDicts ds
  | .dict _ => false
  | _ => true
def noDicts : List D → Bool
  | [] => true
  | d :: ds => noDict d && noDicts ds
end
mutual
theorem Rep.dp : ∀ {d : D} {v : V}, Rep K H O d v → noDict d = true → Dp K H v d
  | _, _, .non, _ => .non
  | _, _, .bl b, _ => .bl b
  | _, _, .int i, _ => .int i
  | _, _, .str x _, _ => .str x
  | _, _, .lst h r, n => .lst h.sq (Reps.dp r (by simpa [noDict] using n))
  | _, _, .tup h r, n => .tup h.sq (Reps.dp r (by simpa [noDict] using n))
  | _, _, .dic h _ r, n => by simp [noDict] at n
  | _, _, .fnc h, n => by simp [noDict] at n
theorem Reps.dp : ∀ {ds : List D} {vs : List V}, Reps K H O ds vs → noDicts ds = true → DpAll K H vs ds
  | _, _, .nil, _ => .nil
  | _, _, .cons r t, n => by
    simp only [noDicts, Bool.and_eq_true] at n
    exact .cons (Rep.dp r n.1) (Reps.dp t n.2)
end
mutual
theorem Rep.lay : ∀ {d : D} {v : V}, Rep K H O d v → noDict d = true → d.canLay0 = true
  | _, _, .non, _ => by rfl
  | _, _, .bl b, _ => by rfl
  | _, _, .int i, _ => by rfl
  | _, _, .str x h, _ => by rw [PyData.canLay0]; exact h
  | _, _, .lst _ r, n => by rw [PyData.canLay0]; exact Reps.lay r (by simpa [noDict] using n)
  | _, _, .tup _ r, n => by rw [PyData.canLay0]; exact Reps.lay r (by simpa [noDict] using n)
  | _, _, .dic h _ r, n => by simp [noDict] at n
  | _, _, .fnc h, n => by simp [noDict] at n
theorem Reps.lay : ∀ {ds : List D} {vs : List V}, Reps K H O ds vs → noDicts ds = true → PyData.canLayAll0 ds = true
  | _, _, .nil, _ => by rfl
  | _, _, .cons r t, n => by
    simp only [noDicts, Bool.and_eq_true] at n
    rw [PyData.canLayAll0, Rep.lay r n.1, Reps.lay t n.2]; rfl
end
theorem Reps.length : ∀ {ds : List D} {vs : List V}, Reps K H O ds vs → ds.length = vs.length
  | _, _, .nil => rfl
  | _, _, .cons _ t => by simp [Reps.length t]
theorem RepK.length : ∀ {ds : List (D × D)} {vs : List (L2.Key × V)}, RepK K H O ds vs → ds.length = vs.length
  | _, _, .nil => rfl
  | _, _, .cons _ _ t => by simp [RepK.length t]
theorem Reps.get : ∀ {ds : List D} {vs : List V} {i : Nat} {d : D}, Reps K H O ds vs → ds[i]? = some d → ∃ v, vs[i]? = some v ∧ Rep K H O d v
  | _, _, _, _, .nil, e => by simp at e
  | _, _, 0, _, .cons r _, e => by simp at e; subst e; exact ⟨_, rfl, r⟩
  | _, _, i + 1, d, .cons _ t, e => by
    obtain ⟨v, h1, h2⟩ := Reps.get (i := i) t (by simpa using e)
    exact ⟨v, by simpa using h1, h2⟩
theorem Reps.append : ∀ {ds es : List D} {vs ws : List V}, Reps K H O ds vs → Reps K H O es ws → Reps K H O (ds ++ es) (vs ++ ws)
  | _, _, _, _, .nil, s => s
  | _, _, _, _, .cons r t, s => .cons r (Reps.append t s)
theorem Reps.take : ∀ {ds : List D} {vs : List V} (n : Nat), Reps K H O ds vs → Reps K H O (ds.take n) (vs.take n)
  | _, _, 0, _ => .nil
  | _, _, _ + 1, .nil => .nil
  | _, _, n + 1, .cons r t => .cons r (Reps.take n t)
theorem Reps.drop : ∀ {ds : List D} {vs : List V} (n : Nat), Reps K H O ds vs → Reps K H O (ds.drop n) (vs.drop n)
  | _, _, 0, r => r
  | _, _, _ + 1, .nil => .nil
  | _, _, n + 1, .cons _ t => Reps.drop n t
theorem Reps.set : ∀ {ds : List D} {vs : List V} {d : D} {v : V} (i : Nat), Rep K H O d v → Reps K H O ds vs → Reps K H O (ds.set i d) (vs.set i v)
  | _, _, _, _, _, _, .nil => .nil
  | _, _, _, _, 0, q, .cons _ t => .cons q t
  | _, _, _, _, i + 1, q, .cons r t => .cons r (Reps.set i q t)
theorem Reps.ints : ∀ {ds : List D} {vs : List V} {ns : List Int}, Reps K H O ds vs → ds = ns.map .int → vs = ns.map V.int
  | _, _, [], .nil, _ => rfl
  | _, _, _ :: _, .nil, e => by simp at e
  | _, _, [], .cons _ _, e => by simp at e
  | _, _, n :: ns, .cons r t, e => by
    simp only [List.map_cons, List.cons.injEq] at e
    obtain ⟨e1, e2⟩ := e
    subst e1
    cases r
    rw [Reps.ints t e2]; rfl
theorem Reps.bools : ∀ {ds : List D} {vs : List V} {ns : List Bool}, Reps K H O ds vs → ds = ns.map .bool → vs = ns.map V.bl
  | _, _, [], .nil, _ => rfl
  | _, _, _ :: _, .nil, e => by simp at e
  | _, _, [], .cons _ _, e => by simp at e
  | _, _, n :: ns, .cons r t, e => by
    simp only [List.map_cons, List.cons.injEq] at e
    obtain ⟨e1, e2⟩ := e
    subst e1
    cases r
    rw [Reps.bools t e2]; rfl
theorem Reps.strs : ∀ {ds : List D} {vs : List V} {ns : List Str}, Reps K H O ds vs → ds = ns.map .str → vs = ns.map V.str
  | _, _, [], .nil, _ => rfl
  | _, _, _ :: _, .nil, e => by simp at e
  | _, _, [], .cons _ _, e => by simp at e
  | _, _, n :: ns, .cons r t, e => by
    simp only [List.map_cons, List.cons.injEq] at e
    obtain ⟨e1, e2⟩ := e
    subst e1
    cases r
    rw [Reps.strs t e2]; rfl
end

def OwnAt (K : PySem.W.Frag) (H : Hp) (O : AS) (d : D) (a : Addr) : Prop :=
  match d with
  | .list ds => ∃ vs, H a = some (.lst vs) ∧ Reps K H O ds vs
  | .dict ds => ∃ kvs, H a = some (.dK kvs) ∧ RepK K H O ds kvs
  | _ => False
theorem OwnAt.there {K : PySem.W.Frag} {H : Hp} {O : AS} {d : D} {a : Addr} (h : OwnAt K H O d a) : ∃ o, H a = some o := by
  cases d <;> first | exact (show False from h).elim | exact let ⟨_, e, _⟩ := h; ⟨_, e⟩
theorem OwnAt.mono {K : PySem.W.Frag} {H H' : Hp} {O O' : AS} {d : D} {a : Addr} (k : Keeps H O H' O') (ha : ∀ o, H a = some o → H' a = some o) (h : OwnAt K H O d a) : OwnAt K H' O' d a := by
  cases d <;> first
    | exact (show False from h).elim
    | exact let ⟨vs, e, r⟩ := (h : ∃ vs, H a = some (.lst vs) ∧ Reps K H O _ vs); ⟨vs, ha _ e, r.mono k⟩
    | exact let ⟨vs, e, r⟩ := (h : ∃ vs, H a = some (.dK vs) ∧ RepK K H O _ vs); ⟨vs, ha _ e, r.mono k⟩
theorem OwnAt.rep {K : PySem.W.Frag} {H : Hp} {O O' : AS} {d : D} {a : Addr} (k : Keeps H O H O') (n : ¬ O' a) (h : OwnAt K H O d a) : Rep K H O' d (.ref a) := by
  cases d <;> first
    | exact (show False from h).elim
    | exact let ⟨vs, e, r⟩ := (h : ∃ vs, H a = some (.lst vs) ∧ Reps K H O _ vs); .lst (.inl ⟨.inl e, n⟩) (r.mono k)
    | exact let ⟨vs, e, r⟩ := (h : ∃ vs, H a = some (.dK vs) ∧ RepK K H O _ vs); .dic e n (r.mono k)
/-- what an operator may read -/
def Top (K : PySem.W.Frag) (H : Hp) (O : AS) (d : D) (v : V) : Prop := Rep K H O d v ∨ ∃ a, v = .ref a ∧ OwnAt K H O d a
section
variable {K : PySem.W.Frag} {H H' : Hp} {O O' : AS} {v : V}
theorem Top.list {ds : List D} (h : Top K H O (.list ds) v) : ∃ a vs, v = .ref a ∧ SqL K H a vs ∧ Reps K H O ds vs := by
  rcases h with h | ⟨a, rfl, vs, e, r⟩
  · cases h with
    | lst l r => exact ⟨_, _, rfl, l.sq, r⟩
  · exact ⟨a, vs, rfl, .inl (.inl e), r⟩
theorem Top.tuple {ds : List D} (h : Top K H O (.tuple ds) v) : ∃ a vs, v = .ref a ∧ SqT K H a vs ∧ Reps K H O ds vs := by
  rcases h with h | ⟨a, rfl, h⟩
  · cases h with
    | tup l r => exact ⟨_, _, rfl, l.sq, r⟩
  · exact (show False from h).elim
theorem RepK.noFn {ds : List (D × D)} {kvs : List (L2.Key × V)} (r : RepK K H O ds kvs) : isFn ds = false := by
  cases r with
  | nil => rfl
  | @cons k d v ds vs hk _ _ => cases k <;> cases ds <;> rfl
theorem Top.dict {ds : List (D × D)} (h : Top K H O (.dict ds) v) (hf : isFn ds = false) : ∃ a kvs, v = .ref a ∧ H a = some (.dK kvs) ∧ RepK K H O ds kvs := by
  rcases h with h | ⟨a, rfl, vs, e, r⟩
  · cases h with
    | dic l _ r => exact ⟨_, _, rfl, l, r⟩
    | fnc e => cases hf
  · exact ⟨a, vs, rfl, e, r⟩
theorem Top.int {i : Int} (h : Top K H O (.int i) v) : v = .int i := by
  rcases h with h | ⟨a, rfl, h⟩
  · cases h; rfl
  · exact (show False from h).elim
theorem Top.str {i : Str} (h : Top K H O (.str i) v) : v = .str i := by
  rcases h with h | ⟨a, rfl, h⟩
  · cases h; rfl
  · exact (show False from h).elim
theorem Top.bl {i : Bool} (h : Top K H O (.bool i) v) : v = .bl i := by
  rcases h with h | ⟨a, rfl, h⟩
  · cases h; rfl
  · exact (show False from h).elim
theorem Top.non (h : Top K H O .none v) : v = .non := by
  rcases h with h | ⟨a, rfl, h⟩
  · cases h; rfl
  · exact (show False from h).elim
theorem Top.strOk {i : Str} (h : Top K H O (.str i) v) : PyData.strOk i = true := by
  rcases h with h | ⟨a, rfl, h⟩
  · cases h; assumption
  · exact (show False from h).elim
theorem Top.lay {d : D} (h : Top K H O d v) (n : noDict d = true) : d.canLay0 = true := by
  rcases h with h | ⟨a, rfl, h⟩
  · exact h.lay n
  · cases d <;> first
      | exact (show False from h).elim
      | exact (by obtain ⟨vs, e, r⟩ := h; rw [PyData.canLay0]; exact r.lay (by simpa [noDict] using n))
      | simp [noDict] at n
theorem Top.dp {d : D} (h : Top K H O d v) (n : noDict d = true) : Dp K H v d := by
  rcases h with h | ⟨a, rfl, h⟩
  · exact h.dp n
  · cases d <;> first
      | exact (show False from h).elim
      | exact (by obtain ⟨vs, e, r⟩ := h; exact .lst (.inl (.inl e)) (r.dp (by simpa [noDict] using n)))
      | simp [noDict] at n
end

/-! ## the slots -/
structure Cn where
  K : PySem.W.Frag
  H0 : Hp
  s0 : St
  pr : List Nat
def OwnS (ρ : Rho) (σ : St) : AS := fun b => ∃ (i : Nat) (d : D), ρ[i]? = some (some (.o d)) ∧ σ[i]? = some (some (.ref b))
def OE (ρ : Rho) (σ : St) (E : AS) : AS := fun b => E b ∨ OwnS ρ σ b
def Add (E : AS) (a : Addr) : AS := fun b => E b ∨ b = a
structure R (c : Cn) (E : AS) (ρ : Rho) (σ : St) (H : Hp) : Prop where
  len : ρ.length = σ.length
  val : ∀ (i : Nat) (d : D), ρ[i]? = some (some (.v d)) → ∃ v, σ[i]? = some (some v) ∧ Rep c.K H (OE ρ σ E) d v
  own : ∀ (i : Nat) (d : D), ρ[i]? = some (some (.o d)) → ∃ a, σ[i]? = some (some (.ref a)) ∧ OwnAt c.K H (OE ρ σ E) d a ∧ ¬ E a ∧ (c.H0 a = none ∨ ∃ j ∈ c.pr, c.s0[j]? = some (some (.ref a)))
  inj : ∀ (i j : Nat) (d e : D) (a : Addr), ρ[i]? = some (some (.o d)) → ρ[j]? = some (some (.o e)) → σ[i]? = some (some (.ref a)) → σ[j]? = some (some (.ref a)) → i = j
  eal : ∀ b, E b → ∃ o, H b = some o
  al : ∀ b o, c.H0 b = some o → ∃ o', H b = some o'
  prt : ∀ i ∈ c.pr, σ[i]? = c.s0[i]?
/-- from one state to a later one -/
structure Stp (ρ : Rho) (σ : St) (H : Hp) (ρ' : Rho) (σ' : St) (H' : Hp) : Prop where
  keep : ∀ b o, H b = some o → ¬ OwnS ρ σ b → H' b = some o
  all : ∀ b o, H b = some o → ∃ o', H' b = some o'
  own : ∀ b o, H b = some o → OwnS ρ' σ' b → OwnS ρ σ b
section
variable {c : Cn} {E : AS} {ρ ρ1 ρ' : Rho} {σ σ1 σ' : St} {H H1 H' : Hp} {d : D} {v z : V} {a : Addr}
theorem Stp.rfl : Stp ρ σ H ρ σ H := ⟨fun _ _ h _ => h, fun _ _ h => ⟨_, h⟩, fun _ _ _ h => h⟩
theorem Stp.trans (s : Stp ρ σ H ρ1 σ1 H1) (t : Stp ρ1 σ1 H1 ρ' σ' H') : Stp ρ σ H ρ' σ' H' :=
  ⟨fun b o h n => t.keep b o (s.keep b o h n) fun q => n (s.own b o h q), fun b o h => let ⟨o1, h1⟩ := s.all b o h; t.all b o1 h1,
   fun b o h q => let ⟨o1, h1⟩ := s.all b o h; s.own b o h (t.own b o1 h1 q)⟩
theorem Stp.keeps (s : Stp ρ σ H ρ' σ' H') : Keeps H (OE ρ σ E) H' (OE ρ' σ' E) := fun b o h n =>
  ⟨s.keep b o h fun q => n (.inr q), fun q => n (q.elim .inl fun q => .inr (s.own b o h q))⟩
theorem Keeps.add {O : AS} (n : H a = none) : Keeps H O H (Add O a) := fun b o h k => ⟨h, fun q => q.elim k fun e => by subst e; rw [n] at h; cases h⟩
theorem OE_add : OE ρ σ (Add E a) = Add (OE ρ σ E) a := by
  funext b
  apply propext
  constructor
  · rintro ((h | h) | h)
    · exact .inl (.inl h)
    · exact .inr h
    · exact .inl (.inr h)
  · rintro ((h | h) | h)
    · exact .inl (.inl h)
    · exact .inr h
    · exact .inl (.inr h)
/-- only new objects -/
def Grow (H H' : Hp) : Prop := ∀ b o, H b = some o → H' b = some o
theorem Grow.rfl : Grow H H := fun _ _ h => h
theorem Grow.trans (s : Grow H H1) (t : Grow H1 H') : Grow H H' := fun b o h => t b o (s b o h)
theorem Grow.keeps {O : AS} (g : Grow H H') : Keeps H O H' O := fun b o h n => ⟨g b o h, n⟩
theorem Grow.upd {o : HO} (n : H a = none) : Grow H (upd H a o) := fun b u h => by rw [upd_ne (ne_of_none h n)]; exact h
theorem Grow.stp (g : Grow H H') : Stp ρ σ H ρ σ H' := ⟨fun b o h _ => g b o h, fun b o h => ⟨o, g b o h⟩, fun _ _ _ h => h⟩
theorem R.grow (r : R c E ρ σ H) (g : Grow H H') : R c E ρ σ H' :=
  ⟨r.len, fun i d h => let ⟨v, h1, h2⟩ := r.val i d h; ⟨v, h1, h2.mono g.keeps⟩,
   fun i d h => let ⟨a, h1, h2, h3⟩ := r.own i d h; ⟨a, h1, h2.mono g.keeps (g a), h3⟩, r.inj,
   fun b h => let ⟨o, h1⟩ := r.eal b h; ⟨o, g b o h1⟩, fun b o h => let ⟨o', h1⟩ := r.al b o h; ⟨o', g b o' h1⟩, r.prt⟩
theorem R.own_there (r : R c E ρ σ H) {b : Addr} (h : OwnS ρ σ b) : ∃ o, H b = some o := by
  obtain ⟨i, d, h1, h2⟩ := h
  obtain ⟨a, h3, h4, _⟩ := r.own i d h1
  rw [h2] at h3
  cases h3
  exact h4.there
/-- a new address is avoided -/
theorem R.add {H' : Hp} {o : HO} (r : R c E ρ σ H) (n : H a = none) (g : Grow H H') (h : H' a = some o) : R c (Add E a) ρ σ H' := by
  have k : Keeps H (OE ρ σ E) H' (OE ρ σ (Add E a)) := by rw [OE_add]; exact (Keeps.add n).trans g.keeps
  refine ⟨r.len, fun i d q => let ⟨v, h1, h2⟩ := r.val i d q; ⟨v, h1, h2.mono k⟩, fun i d q => ?_, r.inj, fun b q => ?_, fun b o h => let ⟨o', h1⟩ := r.al b o h; ⟨o', g b o' h1⟩, r.prt⟩
  · obtain ⟨x, h1, h2, h3, h4⟩ := r.own i d q
    refine ⟨x, h1, h2.mono k (g x), fun z => z.elim h3 fun e => ?_, h4⟩
    obtain ⟨u, hu⟩ := h2.there
    rw [e, n] at hu
    cases hu
  · rcases q with q | q
    · exact let ⟨o, h1⟩ := r.eal b q; ⟨o, g b o h1⟩
    · exact ⟨o, by rw [q]; exact h⟩
/-- less is avoided -/
theorem R.drop (r : R c (Add E a) ρ σ H) : R c E ρ σ H := by
  have k : Keeps H (OE ρ σ (Add E a)) H (OE ρ σ E) := fun b o h n => ⟨h, fun q => n (q.elim (fun q => .inl (.inl q)) .inr)⟩
  exact ⟨r.len, fun i d q => let ⟨v, h1, h2⟩ := r.val i d q; ⟨v, h1, h2.mono k⟩,
    fun i d q => let ⟨x, h1, h2, h3, h4⟩ := r.own i d q; ⟨x, h1, h2.mono k (fun _ h => h), fun z => h3 (.inl z), h4⟩, r.inj, fun b q => r.eal b (.inl q), r.al, r.prt⟩
theorem R.own_not (r : R c E ρ σ H) {b : Addr} (h : OwnS ρ σ b) : ¬ E b := by
  obtain ⟨i, d, h1, h2⟩ := h
  obtain ⟨x, h3, _, h4, _⟩ := r.own i d h1
  rw [h2] at h3
  cases h3
  exact h4
/-- an own slot is let go: its list is never changed again -/
theorem R.freeze {i : Nat} (r : R c E ρ σ H) (h : ρ[i]? = some (some (.o d))) : R c E (ρ.set i (some (.v d))) σ H ∧ Stp ρ σ H (ρ.set i (some (.v d))) σ H ∧ ∃ v, σ[i]? = some (some v) ∧ Rep c.K H (OE (ρ.set i (some (.v d))) σ E) d v := by
  have hi : i < ρ.length := (List.getElem?_eq_some_iff.mp h).1
  obtain ⟨a, h1, h2, h3, h4⟩ := r.own i d h
  have sub : ∀ (j : Nat) (e : D), (ρ.set i (some (.v d)))[j]? = some (some (.o e)) → ρ[j]? = some (some (.o e)) ∧ j ≠ i := fun j e q => by
    by_cases hj : j = i
    · subst hj
      rw [List.getElem?_set_self hi] at q
      cases q
    · rw [List.getElem?_set_ne (Ne.symm hj)] at q
      exact ⟨q, hj⟩
  have osub : ∀ b, OwnS (ρ.set i (some (.v d))) σ b → OwnS ρ σ b := fun b ⟨j, e, q1, q2⟩ => ⟨j, e, (sub j e q1).1, q2⟩
  have k : Keeps H (OE ρ σ E) H (OE (ρ.set i (some (.v d))) σ E) := fun b o q n => ⟨q, fun z => n (z.elim .inl fun z => .inr (osub b z))⟩
  have na : ¬ OE (ρ.set i (some (.v d))) σ E a := by
    rintro (z | ⟨j, e, q1, q2⟩)
    · exact h3 z
    · obtain ⟨q1, q3⟩ := sub j e q1
      exact q3 (r.inj j i e d a q1 h q2 h1)
  have rp : Rep c.K H (OE (ρ.set i (some (.v d))) σ E) d (.ref a) := h2.rep k na
  refine ⟨⟨by rw [List.length_set]; exact r.len, fun j e q => ?_, fun j e q => ?_, fun j l e f x q1 q2 => ?_, r.eal, r.al, r.prt⟩, ⟨fun _ _ h _ => h, fun _ _ h => ⟨_, h⟩, fun b _ _ q => osub b q⟩, _, h1, rp⟩
  · by_cases hj : j = i
    · subst hj
      rw [List.getElem?_set_self hi] at q
      cases q
      exact ⟨_, h1, rp⟩
    · rw [List.getElem?_set_ne (Ne.symm hj)] at q
      exact let ⟨v, h1, h2⟩ := r.val j e q; ⟨v, h1, h2.mono k⟩
  · obtain ⟨q, _⟩ := sub j e q
    exact let ⟨x, h1, h2, h3⟩ := r.own j e q; ⟨x, h1, h2.mono k (fun _ h => h), h3⟩
  · exact r.inj j l e f x (sub _ _ q1).1 (sub _ _ q2).1
end

/-! ## readings -/
abbrev ME := Rho → Option (RV × Rho)
abbrev MB := Rho → Option (Bool × Rho)
inductive Op where
  | sl (i : Nat)
  | tv (d : D)
abbrev MO := Rho → Option (Op × Rho)
abbrev MOs := Rho → Option (List Op × Rho)
def slot (ρ : Rho) (i : Nat) : Option D :=
  match ρ[i]? with
  | some (some r) => some r.d
  | _ => none
def Op.get (ρ : Rho) : Op → Option D
  | .tv d => some d
  | .sl i => slot ρ i
def getAll (ρ : Rho) : List Op → Option (List D)
  | [] => some []
  | p :: ps => match p.get ρ, getAll ρ ps with
    | some d, some ds => some (d :: ds)
    | _, _ => none
def PostV (c : Cn) (E : AS) (ρ : Rho) (σ : St) (H : Hp) (ρ' : Rho) (H' : Hp) (d : D) (z : V) : Prop := Stp ρ σ H ρ' σ H' ∧ R c E ρ' σ H' ∧ Rep c.K H' (OE ρ' σ E) d z
def PostE (c : Cn) (E : AS) (ρ : Rho) (σ : St) (H : Hp) (ρ' : Rho) (H' : Hp) (rv : RV) (z : V) : Prop :=
  match rv with
  | .v d => PostV c E ρ σ H ρ' H' d z
  | .o d => ∃ a, z = .ref a ∧ Stp ρ σ H ρ' σ H' ∧ H a = none ∧ R c (Add E a) ρ' σ H' ∧ OwnAt c.K H' (OE ρ' σ (Add E a)) d a
theorem PostE.pv {c : Cn} {E : AS} {ρ ρ' : Rho} {σ : St} {H H' : Hp} {rv : RV} {z : V} (he : R c E ρ σ H) (h : PostE c E ρ σ H ρ' H' rv z) : PostV c E ρ σ H ρ' H' rv.d z := by
  cases rv with
  | v d => exact h
  | o d =>
    obtain ⟨a, rfl, s, n, r, o⟩ := h
    refine ⟨s, r.drop, o.rep (O := OE ρ' σ (Add E a)) (fun b o h q => ⟨h, fun z => q (z.elim (fun z => .inl (.inl z)) .inr)⟩) fun z => ?_⟩
    rcases z with z | z
    · obtain ⟨u, hu⟩ := he.eal a z
      rw [n] at hu; cases hu
    · exact r.own_not z (.inr rfl)
def PostOp (c : Cn) (E : AS) (ρ : Rho) (σ : St) (H : Hp) (ρ' : Rho) (H' : Hp) (p : Op) (z : V) : Prop :=
  Stp ρ σ H ρ' σ H' ∧ R c E ρ' σ H' ∧ match p with
    | .tv d => Rep c.K H' (OE ρ' σ E) d z
    | .sl i => σ[i]? = some (some z)
def OpsAt (c : Cn) (E : AS) (ρ' : Rho) (σ : St) (H' : Hp) : List Op → List V → Prop
  | [], [] => True
  | p :: ps, z :: zs => (match p with
    | .tv d => Rep c.K H' (OE ρ' σ E) d z
    | .sl i => σ[i]? = some (some z)) ∧ OpsAt c E ρ' σ H' ps zs
  | _, _ => False
def tE (X : Cx) (f : ME) : TE := fun σ H Q => ∃ c E ρ rv ρ', c.K = X.K ∧ R c E ρ σ H ∧ f ρ = some (rv, ρ') ∧ ∀ z H', PostE c E ρ σ H ρ' H' rv z → Q z H'
def tOpd (X : Cx) (f : MO) : TE := fun σ H Q => ∃ c E ρ p ρ', c.K = X.K ∧ R c E ρ σ H ∧ f ρ = some (p, ρ') ∧ ∀ z H', PostOp c E ρ σ H ρ' H' p z → Q z H'
def tOps (X : Cx) (f : MOs) : TA := fun σ H Q => ∃ c E ρ ps ρ', c.K = X.K ∧ R c E ρ σ H ∧ f ρ = some (ps, ρ') ∧ ∀ zs H', Stp ρ σ H ρ' σ H' ∧ R c E ρ' σ H' ∧ OpsAt c E ρ' σ H' ps zs → Q zs H'
def tT (X : Cx) (f : MB) : TT := fun σ H Q => ∃ c E ρ b ρ', c.K = X.K ∧ R c E ρ σ H ∧ f ρ = some (b, ρ') ∧ ∀ H', Stp ρ σ H ρ' σ H' ∧ R c E ρ' σ H' → Q b H'
def Tops (K : PySem.W.Frag) (H : Hp) (O : AS) : List D → List V → Prop
  | [], [] => True
  | d :: ds, z :: zs => Top K H O d z ∧ Tops K H O ds zs
  | _, _ => False
section
variable {c : Cn} {E : AS} {ρ ρ1 ρ' : Rho} {σ σ1 σ' : St} {H H1 H' : Hp} {d : D} {v z : V} {a : Addr}
theorem R.top {i : Nat} (r : R c E ρ σ H) (h : slot ρ i = some d) (hz : σ[i]? = some (some z)) : Top c.K H (OE ρ σ E) d z := by
  unfold slot at h
  split at h
  · rename_i rv q
    cases h
    cases rv with
    | v d =>
      obtain ⟨v, h1, h2⟩ := r.val i d q
      rw [hz] at h1; cases h1
      exact .inl h2
    | o d =>
      obtain ⟨x, h1, h2, _⟩ := r.own i d q
      rw [hz] at h1; cases h1
      exact .inr ⟨x, rfl, h2⟩
  · cases h
theorem PostOp.top {p : Op} {ρ2 : Rho} {H2 : Hp} (h : PostOp c E ρ σ H ρ1 H1 p z) (s : Stp ρ1 σ H1 ρ2 σ H2) (r : R c E ρ2 σ H2) (g : p.get ρ2 = some d) : Top c.K H2 (OE ρ2 σ E) d z := by
  obtain ⟨_, _, q⟩ := h
  cases p with
  | tv e => cases g; exact .inl (Rep.mono s.keeps q)
  | sl i => exact r.top g q
theorem OpsAt.mono {ρ2 : Rho} {H2 : Hp} (s : Stp ρ1 σ H1 ρ2 σ H2) : ∀ {ps : List Op} {zs : List V}, OpsAt c E ρ1 σ H1 ps zs → OpsAt c E ρ2 σ H2 ps zs
  | [], [], _ => True.intro
  | .tv _ :: _, _ :: _, h => ⟨Rep.mono s.keeps h.1, OpsAt.mono s h.2⟩
  | .sl _ :: _, _ :: _, h => ⟨h.1, OpsAt.mono s h.2⟩
  | [], _ :: _, h => h.elim
  | _ :: _, [], h => h.elim
theorem OpsAt.tops (r : R c E ρ σ H) : ∀ {ps : List Op} {zs : List V} {ds : List D}, OpsAt c E ρ σ H ps zs → getAll ρ ps = some ds → Tops c.K H (OE ρ σ E) ds zs
  | [], [], ds, _, g => by cases g; exact True.intro
  | p :: ps, z :: zs, ds, h, g => by
    unfold getAll at g
    split at g
    · rename_i d es e1 e2
      cases g
      refine ⟨?_, OpsAt.tops r h.2 e2⟩
      cases p with
      | tv e => cases e1; exact .inl h.1
      | sl i => exact r.top e1 h.1
    · cases g
  | [], _ :: _, _, h, _ => h.elim
  | _ :: _, [], _, h, _ => h.elim
end
end Z
namespace Z
open PySem PySem.Spec L2
open PyProof.Rows hiding St

/-! ## operators on data -/
def szb (n : Nat) : Bool := decide (n ≤ 16777216)
theorem szb_ok {n : Nat} (h : szb n = true) : n ≤ sizeLine := by rw [sizeLine_eq]; exact of_decide_eq_true h
/-- data that == can compare here -/
def okE (d : D) : Bool := noDict d && decide (d.depth ≤ 60)
def addD : D → D → Option RV
  | .int i, .int j => some (.v (.int (i + j)))
  | .str i, .str j => if szb (i.length + j.length) then some (.v (.str (i ++ j))) else none
  | .list xs, .list ys => if szb (xs.length + ys.length) then some (.o (.list (xs ++ ys))) else none
  | .tuple xs, .tuple ys => if szb (xs.length + ys.length) then some (.v (.tuple (xs ++ ys))) else none
  | _, _ => none
def subD : D → D → Option RV
  | .int i, .int j => some (.v (.int (i - j)))
  | _, _ => none
def in64 (i : Int) : Bool := decide (i.natAbs < 18446744073709551616)
def repS (n : Nat) (x : Str) : Str := ⟨(List.replicate n x.cps).foldl (· ++ ·) #[]⟩
def mulD : D → D → Option RV
  | .int i, .int j => if in64 i || in64 j then some (.v (.int (i * j))) else none
  | .tuple xs, .int k => if decide (2 ≤ k) && decide (k ≤ 1000) && decide (xs.length ≤ 1000) then some (.v (.tuple (List.replicate k.toNat xs).flatten)) else none
  | .list xs, .int k => if decide (0 ≤ k) && decide (k ≤ 1000) && decide (xs.length ≤ 1000) then some (.o (.list (List.replicate k.toNat xs).flatten)) else none
  | .str x, .int k => if decide (2 ≤ k) && decide (k ≤ 1000) && decide (1 ≤ x.length) && decide (x.length ≤ 1000) then some (.v (.str (repS k.toNat x))) else none
  | _, _ => none
def fdivD : D → D → Option RV
  | .int i, .int j => if decide (0 < j) && decide (j < 1073741824) then some (.v (.int (i / j))) else none
  | _, _ => none
def modD : D → D → Option RV
  | .int i, .int j => if decide (0 < j) then some (.v (.int (i % j))) else none
  | _, _ => none
def powD : D → D → Option RV
  | .int i, .int j => if decide (0 ≤ j) && decide (j ≤ 1000000) && in64 i then some (.v (.int (i ^ j.toNat))) else none
  | _, _ => none
def negD : D → Option RV
  | .int i => some (.v (.int (-i)))
  | _ => none
def bl (b : Bool) : Option RV := some (.v (.bool b))
/-- data that stand in one order -/
def cmpOk (d e : D) : Bool := okE d && okE e && PySem.W.alike d e && match d with
  | .none => false
  | _ => true
def ltD : D → D → Option RV
  | .int i, .int j => bl (decide (i < j))
  | .str i, .str j => bl (decide (i.cps.toList < j.cps.toList))
  | d, e => if cmpOk d e then bl (PySem.W.dataLt d e) else none
def leD : D → D → Option RV
  | .int i, .int j => bl (decide (i ≤ j))
  | d, e => if cmpOk d e then bl (!PySem.W.dataLt e d) else none
def gtD : D → D → Option RV
  | .int i, .int j => bl (decide (j < i))
  | d, e => if cmpOk d e then bl (PySem.W.dataLt e d) else none
def geD : D → D → Option RV
  | .int i, .int j => bl (decide (j ≤ i))
  | d, e => if cmpOk d e then bl (!PySem.W.dataLt d e) else none
def eqD (d e : D) : Option RV := if okE d && okE e then bl (PyData.eqv d e) else match d, e with
  | .tuple ds, .tuple [] => bl ds.isEmpty
  | .dict [], .dict [] => bl true
  | _, _ => none
def neD (d e : D) : Option RV := if okE d && okE e then bl (!PyData.eqv d e) else none
/-- keys of dicts: ints and texts -/
def dEq : D → D → Bool
  | .int i, .int j => decide (i = j)
  | .str a, .str b => decide (a = b)
  | _, _ => false
def getK (ds : List (D × D)) (k : D) : Option D := (ds.find? fun p => dEq p.1 k).map (·.2)
def setK (ds : List (D × D)) (k v : D) : List (D × D) := if ds.any (fun p => dEq p.1 k) then ds.map (fun p => if dEq p.1 k then (p.1, v) else p) else ds ++ [(k, v)]
def isKD : D → Bool
  | .int _ => true
  | .str _ => true
  | _ => false
def signIn (c : Nat) (z : Str) : Bool := decide (c ∈ z.cps.toList)
def inD : D → D → Option RV
  | x, .list ys => if okE x && noDicts ys then bl (ys.any fun y => PyData.eqv y x) else none
  | x, .tuple ys => if okE x && noDicts ys then bl (ys.any fun y => PyData.eqv y x) else none
  | .str x, .str z => match x.cps.toList with
    | [c] => bl (signIn c z)
    | _ => none
  | x, .dict ds => if isKD x && !isFn ds then bl (getK ds x).isSome else none
  | _, _ => none
def notInD (x y : D) : Option RV := match inD x y with
  | some (.v (.bool b)) => bl (!b)
  | _ => none
def isN : D → Bool
  | .none => true
  | _ => false
def isD : D → D → Option RV
  | d, .none => bl (isN d)
  | .bool a, .bool b => bl (decide (a = b))
  | _, _ => none
def isNotD (x y : D) : Option RV := match isD x y with
  | some (.v (.bool b)) => bl (!b)
  | _ => none
def atL (xs : List D) (i : Int) : Option D := atI xs i
def ixD : D → D → Option RV
  | .list xs, .int i => (atI xs i).map .v
  | .tuple xs, .int i => (atI xs i).map .v
  | .str z, .int i => if szb z.length then (atI z.cps.toList i).map fun c => .v (.str ⟨#[c]⟩) else none
  | .dict ds, x => if isKD x then (getK ds x).map .v else none
  | _, _ => none

/-! ## the rules by values -/
def ResB (K : PySem.W.Frag) (H : Hp) (O : AS) (rv : RV) (H' : Hp) (z : V) : Prop :=
  Grow H H' ∧ match rv with
    | .v d => Rep K H' O d z
    | .o d => ∃ a, z = .ref a ∧ H a = none ∧ OwnAt K H' (Add O a) d a
def rD2 (K : PySem.W.Frag) (f : D → D → Option RV) : R2 := fun x y H Q => ∃ (O : AS) (d e : D) (rv : RV), (∀ b, O b → ∃ o, H b = some o) ∧ Top K H O d x ∧ Top K H O e y ∧ f d e = some rv ∧ ∀ z H', ResB K H O rv H' z → Q z H'
def rD1 (K : PySem.W.Frag) (f : D → Option RV) : V → Hp → VK → Prop := fun x H Q => ∃ (O : AS) (d : D) (rv : RV), (∀ b, O b → ∃ o, H b = some o) ∧ Top K H O d x ∧ f d = some rv ∧ ∀ z H', ResB K H O rv H' z → Q z H'
def rDs (K : PySem.W.Frag) (f : List D → Option RV) : List V → Hp → VK → Prop := fun xs H Q => ∃ (O : AS) (ds : List D) (rv : RV), (∀ b, O b → ∃ o, H b = some o) ∧ Tops K H O ds xs ∧ f ds = some rv ∧ ∀ z H', ResB K H O rv H' z → Q z H'
theorem strOk_iff {x : Str} : PyData.strOk x = true ↔ ∀ c ∈ x.cps.toList, c < 0x110000 := by
  unfold PyData.strOk
  rw [← Array.all_toList, List.all_eq_true]
  simp only [decide_eq_true_eq]
theorem strOk_app {x y : Str} (h : PyData.strOk x = true) (g : PyData.strOk y = true) : PyData.strOk (x ++ y) = true := by
  rw [strOk_iff] at *
  intro c hc
  have e : (x ++ y).cps.toList = x.cps.toList ++ y.cps.toList := by
    show (x.cps ++ y.cps).toList = _
    simp
  rw [e] at hc
  rcases List.mem_append.mp hc with q | q
  · exact h c q
  · exact g c q
theorem strOk_one {x : Str} {c : Nat} (h : PyData.strOk x = true) (m : c ∈ x.cps.toList) : PyData.strOk ⟨#[c]⟩ = true := by
  rw [strOk_iff] at *
  intro b hb
  have e : b = c := by simpa using hb
  rw [e]; exact h c m

theorem dEq_kD (a b : L2.Key) : dEq (kD a) (kD b) = decide (a = b) := by
  cases a <;> cases b <;> simp [dEq, kD]
theorem isKD_ok {d : D} (h : isKD d = true) : ∃ k : L2.Key, d = kD k := by
  cases d <;> first
    | exact ⟨.inl _, rfl⟩
    | exact ⟨.inr _, rfl⟩
    | cases h
theorem getK_ok {K : PySem.W.Frag} {H : Hp} {O : AS} {k : L2.Key} : ∀ {ds : List (D × D)} {kvs : List (L2.Key × V)}, RepK K H O ds kvs → (getK ds (kD k) = none ∧ valV kvs k = none) ∨ ∃ d v, getK ds (kD k) = some d ∧ valV kvs k = some v ∧ Rep K H O d v
  | _, _, .nil => .inl ⟨rfl, rfl⟩
  | _, _, .cons (k := k0) (d := d) (v := v) _ r t => by
    by_cases e : k0 = k
    · refine .inr ⟨d, v, ?_, valV_pos e, r⟩
      unfold getK
      rw [List.find?_cons, dEq_kD, decide_eq_true e]; rfl
    · have e1 : ∀ ds : List (D × D), getK ((kD k0, d) :: ds) (kD k) = getK ds (kD k) := fun ds => by
        unfold getK
        rw [List.find?_cons, dEq_kD, decide_eq_false e]
      rw [e1, valV_neg e]
      exact getK_ok t
theorem setK_ok {K : PySem.W.Frag} {H : Hp} {O : AS} {k : L2.Key} {d : D} {v : V} (hk : KeyOk k) (r : Rep K H O d v) {ds : List (D × D)} {kvs : List (L2.Key × V)} (h : RepK K H O ds kvs) : RepK K H O (setK ds (kD k) d) (putK kvs k v) := by
  have e1 : ∀ {ds : List (D × D)} {kvs : List (L2.Key × V)}, RepK K H O ds kvs → ds.any (fun p => dEq p.1 (kD k)) = kvs.any fun kv => decide (kv.1 = k) := by
    intro ds
    induction ds with
    | nil => intro kvs h; cases h; rfl
    | cons p ds ih =>
      intro kvs h
      cases h with
      | cons _ r t => rw [List.any_cons, List.any_cons, dEq_kD, ih t]
  have e2 : ∀ {ds : List (D × D)} {kvs : List (L2.Key × V)}, RepK K H O ds kvs → RepK K H O (ds.map (fun p => if dEq p.1 (kD k) then (p.1, d) else p)) (kvs.map (fun kv => if kv.1 = k then (kv.1, v) else kv)) := by
    intro ds
    induction ds with
    | nil => intro kvs h; cases h; exact .nil
    | cons p ds ih =>
      intro kvs h
      cases h with
      | cons h2 r2 t =>
        rw [List.map_cons, List.map_cons, dEq_kD]
        rename_i k0 _ _ _
        by_cases e : k0 = k
        · simp only [decide_eq_true e, if_true, e]
          exact .cons hk r (ih t)
        · simp only [decide_eq_false e, if_neg e]
          exact .cons h2 r2 (ih t)
  have e3 : ∀ {ds : List (D × D)} {kvs : List (L2.Key × V)}, RepK K H O ds kvs → RepK K H O (ds ++ [(kD k, d)]) (kvs ++ [(k, v)]) := by
    intro ds
    induction ds with
    | nil => intro kvs h; cases h; exact .cons hk r .nil
    | cons p ds ih =>
      intro kvs h
      cases h with
      | cons h2 r2 t => exact .cons h2 r2 (ih t)
  unfold setK putK
  rw [e1 h]
  split
  · exact e2 h
  · exact e3 h
section
variable {X : Cx}
theorem resV {K : PySem.W.Frag} {H : Hp} {O : AS} {d : D} {z : V} (r : Rep K H O d z) : ResB K H O (.v d) H z := ⟨Grow.rfl, r⟩
theorem resBl {K : PySem.W.Frag} {H : Hp} {O : AS} {b : Bool} : ResB K H O (.v (.bool b)) H (.bl b) := resV (.bl b)
theorem resTup {K : PySem.W.Frag} {H : Hp} {O : AS} {ds : List D} {vs : List V} {p : Addr} (hO : ∀ b, O b → ∃ o, H b = some o) (r : Reps K H O ds vs) (n : H p = none) : ResB K H O (.v (.tuple ds)) (upd H p (.tup vs)) (.ref p) :=
  ⟨Grow.upd n, .tup (.inl ⟨.inl upd_same, fun z => by obtain ⟨o, e⟩ := hO p z; rw [n] at e; cases e⟩) (r.mono (Grow.keeps (Grow.upd n)))⟩
theorem resLst {K : PySem.W.Frag} {H : Hp} {O : AS} {ds : List D} {vs : List V} {p : Addr} (r : Reps K H O ds vs) (n : H p = none) : ResB K H O (.o (.list ds)) (upd H p (.lst vs)) (.ref p) :=
  ⟨Grow.upd n, p, rfl, n, vs, upd_same, r.mono ((Keeps.add n).trans (Grow.keeps (Grow.upd n)))⟩
theorem od_add : OpR X (binaryOp .Add) (rD2 X.K addD) := by
  intro pins s σ H x y v u Q I rx ry h
  obtain ⟨O, d, e, rv, hO, td, te, hf, q⟩ := h
  unfold addD at hf
  split at hf
  · rename_i i j
    cases td.int; cases te.int; cases hf
    exact op_add pins s σ H _ _ v u Q I rx ry ⟨i, j, rfl, rfl, q _ H (resV (.int _))⟩
  · rename_i i j
    split at hf
    · rename_i hz
      have s1 := td.strOk
      have s2 := te.strOk
      cases td.str; cases te.str; cases hf
      exact op_add_str pins s σ H _ _ v u Q I rx ry ⟨i, j, rfl, rfl, szb_ok hz, q _ H (resV (.str _ (strOk_app s1 s2)))⟩
    · cases hf
  · rename_i xs ys
    split at hf
    · rename_i hz
      cases hf
      obtain ⟨a, vs, rfl, ha, ra⟩ := td.list
      obtain ⟨b, ws, rfl, hb, rb⟩ := te.list
      cases rx; cases ry
      obtain ⟨its, r1, p1, z1⟩ := I.list ha
      obtain ⟨its2, r2, p2, z2⟩ := I.list hb
      obtain ⟨⟨c1, e1, d1, sl1⟩, n1, h1, h2, h3, h4⟩ := p1
      obtain ⟨⟨c2, e2, d2, sl2⟩, n2, g1, g2, g3, g4⟩ := p2
      simp only at h2 h3 h4 g2 g3 g4
      subst h2 h3 h4 g2 g3 g4
      have hl := Reps.length ra
      have hm := Reps.length rb
      have hz' := szb_ok hz
      have l1 := r1.length
      have l2 := r2.length
      refine concat_meets ⟨_, h1, rfl⟩ ⟨_, g1, rfl⟩ noFill_list_add seq_list_add PySem.F.slot_list_add PySem.F.entry_list_add (PySem.F.args_list_add_2 _ _)
        (list_addW a b its.toArray its2.toArray n1 n2 none none sl1 sl2 (by rw [List.size_toArray, List.size_toArray]; omega)) ⟨h1, g1, ?_⟩
      have ee : its.toArray ++ its2.toArray = (its ++ its2).toArray := by simp
      rw [ee]
      exact ⟨.ref _, _, I.lnew (t' := s.toks) (r1.append r2) (by rw [List.length_append]; omega), rfl, q _ _ (resLst (ra.append rb) I.fresh)⟩
    · cases hf
  · rename_i xs ys
    split at hf
    · rename_i hz
      cases hf
      obtain ⟨a, vs, rfl, ha, ra⟩ := td.tuple
      obtain ⟨b, ws, rfl, hb, rb⟩ := te.tuple
      have hl := Reps.length ra
      have hm := Reps.length rb
      refine op_catA pins s σ H _ _ v u Q I rx ry ⟨a, b, vs, ws, rfl, rfl, ha, hb, by have := szb_ok hz; omega, fun e => ?_, fun _ e => ?_, fun _ _ p np => q _ _ (resTup hO (ra.append rb) np)⟩
      · subst e
        cases ra
        refine q _ _ (resV ?_)
        rcases te with t | ⟨_, _, t⟩
        · exact t
        · exact t.elim
      · subst e
        cases rb
        refine q _ _ (resV ?_)
        rw [List.append_nil]
        rcases td with t | ⟨_, _, t⟩
        · exact t
        · exact t.elim
    · cases hf
  · cases hf
theorem od_sub : OpR X (binaryOp .Sub) (rD2 X.K subD) := by
  intro pins s σ H x y v u Q I rx ry ⟨O, d, e, rv, hO, td, te, hf, q⟩
  unfold subD at hf
  split at hf
  · rename_i i j
    cases td.int; cases te.int; cases hf
    exact op_sub pins s σ H _ _ v u Q I rx ry ⟨i, j, rfl, rfl, q _ H (resV (.int _))⟩
  · cases hf
theorem in64_ok {i : Int} (h : in64 i = true) : -(2 ^ 64) < i ∧ i < 2 ^ 64 := by
  have h : i.natAbs < 18446744073709551616 := of_decide_eq_true h
  constructor <;> omega
theorem tuple_mul0W (l : Addr) (n : Nat) (dd : Option Addr) (sl : Array (Option Value)) (x : Int) (u : Tok) (c0 : (decide (x < -(2 ^ 63)) || decide (x ≥ 2 ^ 63)) = false) :
    Meets (Builtin.«tuple.__mul__» ⟨[.ref l, .int x u], []⟩) (fun _ R s => s.heap.get? l = some { cls := .type "tuple", dict := dd, data := .seq #[] n, slots := sl } ∧
      R (.ok (.ret (Value.ref l))) s) :=
  .of_wp fun prog w A R s h => by
    obtain ⟨hp, g, d, tk, os⟩ := s
    obtain ⟨hl, h⟩ := h
    have f1 := AutoSeq1.idx_int
    wp_walk using wpAny_loadPart' hl
    refine wpAny_ite_false (decide_eq_false (by rw [c0]; exact Bool.false_ne_true)) ?_; wp_walk using wpAny_loadPart' hl
    exact ⟨_, rfl, h⟩
theorem op_repT0 : OpR X (binaryOp .Mult) (fun x y H Q => ∃ l k, x = .ref l ∧ y = .int k ∧ SqT X.K H l [] ∧ 2 ≤ k ∧ k ≤ 1000 ∧ Q (.ref l) H) := by
  intro pins s σ H x y v u Q I rx ry h
  obtain ⟨l, k, rfl, rfl, hT, h1, h2, q⟩ := h
  cases rx
  obtain ⟨t, rfl⟩ := ry
  obtain ⟨its, r, ⟨⟨cls, dd, data, sl⟩, ho, hc, n, hd⟩, hs⟩ := I.tuple hT
  simp only at hc hd
  subst hc hd
  cases r
  have c0 : (decide (k < -(2 ^ 63)) || decide (k ≥ 2 ^ 63)) = false := by
    rw [decide_eq_false (by omega), decide_eq_false (by omega)] <;> rfl
  exact wpAny_binaryOp_repeat_ref (T := "tuple") (U := "int") (by decide) ⟨_, ho, rfl⟩ (fun s' => typeIs_int s' k t) noFill_tuple_mul F.fills_int_mul F.slot_int_rmul repeat_tuple F.slot_int_index.lookup
    (call_meets F.slot_int_rmul (typeIs_int s k t) F.entry_int_rmul (F.args_int_rmul_2 _ _) (int_rmul_tuple k t l _ n dd sl)
      ⟨ho, rfl, ⟨_, ho, rfl⟩, call_meets F.slot_tuple_mul ⟨_, ho, rfl⟩ F.entry_tuple_mul (F.args_tuple_mul_2 _ _) (tuple_mul0W l n dd sl k t c0) ⟨ho, ⟨.ref l, H, I, rfl, q⟩⟩⟩)
theorem reps_rep {K : PySem.W.Frag} {H : Hp} {O : AS} {ds : List D} {vs : List V} (r : Reps K H O ds vs) : ∀ m : Nat, Reps K H O (List.replicate m ds).flatten (List.replicate m vs).flatten
  | 0 => .nil
  | m + 1 => by
    rw [List.replicate_succ, List.replicate_succ, List.flatten_cons, List.flatten_cons]
    exact r.append (reps_rep r m)
theorem int_rmul_listW (a : Int) (t : Tok) (l : Addr) (items : Array Value) (n : Nat) (dd : Option Addr) (sl : Array (Option Value)) :
    Meets (Builtin.«int.__rmul__» ⟨[.int a t, .ref l], []⟩) (fun _ R s => s.heap.get? l = some { cls := .type "list", dict := dd, data := .seq items n, slots := sl } ∧ R (.ok (.ret Value.notImplemented)) s) :=
  .of_wp fun prog w A R s h => by obtain ⟨hp, g, d, tk, os⟩ := s; obtain ⟨hl, h⟩ := h; wp_walk using wpAny_loadPart' hl; exact ⟨_, rfl, h⟩
theorem list_mulW (l : Addr) (items : Array Value) (n : Nat) (dd : Option Addr) (sl : Array (Option Value)) (x : Int) (u : Tok) (hc0 : ¬(!Builtin.List.listFitsIndex x) = true) (hc1 : ¬items.size * x.toNat > (2 ^ 63 - 1) / 8) (hc2 : ¬Builtin.List.listTooLong (items.size * x.toNat) = true) :
    Meets (Builtin.«list.__mul__» ⟨[.ref l, .int x u], []⟩) (fun _ R s => s.heap.get? l = some { cls := .type "list", dict := dd, data := .seq items n, slots := sl } ∧
      R (.ok (.ret (Value.ref s.heap.objs.size))) { s with heap := s.heap.push { cls := Value.type "list", data := Data.seq (List.foldl (fun x1 x2 => x1 ++ x2) #[] (List.replicate (if items.isEmpty = true then 0 else x.toNat) items)) }, toks := s.toks }) :=
  .of_wp fun prog w A R s h => by
    obtain ⟨hp, g, d, tk, os⟩ := s
    obtain ⟨hl, h⟩ := h
    have f1 := AutoSeq1.idx_int
    have hsz := PySem.AutoListH.joined_fits hc2
    wp_walk using wpAny_loadPart' hl
    refine wpAny_ite_false (decide_eq_false (Nat.not_lt.mpr hsz)) ?_
    wp_walk using wpAny_loadPart' hl
    exact ⟨_, rfl, h⟩
theorem repS_len (n : Nat) (x : Str) : (repS n x).length = n * x.length := by
  have e : ∀ (m : Nat) (a : Array Nat), ((List.replicate m x.cps).foldl (· ++ ·) a).size = a.size + m * x.cps.size := by
    intro m
    induction m with
    | zero => intro a; simp
    | succ m ih =>
      intro a
      rw [List.replicate_succ, List.foldl_cons, ih, Array.size_append, Nat.succ_mul]
      omega
  have := e n #[]
  rw [Array.size_empty, Nat.zero_add] at this
  exact this
theorem strOk_rep {x : Str} (h : PyData.strOk x = true) (n : Nat) : PyData.strOk (repS n x) = true := by
  rw [strOk_iff] at h ⊢
  have e : ∀ (m : Nat) (a : Array Nat), (∀ c ∈ a.toList, c < 0x110000) → ∀ c ∈ ((List.replicate m x.cps).foldl (· ++ ·) a).toList, c < 0x110000 := by
    intro m
    induction m with
    | zero => intro a ha; exact ha
    | succ m ih =>
      intro a ha
      rw [List.replicate_succ, List.foldl_cons]
      refine ih _ fun c hc => ?_
      rw [Array.toList_append] at hc
      rcases List.mem_append.mp hc with q | q
      · exact ha c q
      · exact h c q
  exact e n #[] fun c hc => by cases hc
theorem od_mul : OpR X (binaryOp .Mult) (rD2 X.K mulD) := by
  intro pins s σ H x y v u Q I rx ry ⟨O, d, e, rv, hO, td, te, hf, q⟩
  unfold mulD at hf
  split at hf
  · rename_i i j
    split at hf
    · rename_i hc
      cases td.int; cases te.int; cases hf
      refine op_mul pins s σ H _ _ v u Q I rx ry ⟨i, j, rfl, rfl, ?_, q _ H (resV (.int _))⟩
      rcases Bool.or_eq_true _ _ ▸ hc with hc | hc
      · exact .inl (in64_ok hc)
      · exact .inr (in64_ok hc)
    · cases hf
  · rename_i xs k
    split at hf
    · rename_i hc
      simp only [Bool.and_eq_true, decide_eq_true_eq] at hc
      obtain ⟨⟨h2, h3⟩, h4⟩ := hc
      cases te.int; cases hf
      obtain ⟨a, vs, rfl, ha, ra⟩ := td.tuple
      have hl := Reps.length ra
      cases xs with
      | nil =>
        cases ra
        refine op_repT0 pins s σ H _ _ v u Q I rx ry ⟨a, k, rfl, rfl, ha, h2, h3, q _ _ (resV ?_)⟩
        rw [show (List.replicate k.toNat ([] : List D)).flatten = [] from List.flatten_eq_nil_iff.mpr fun l hl => (List.eq_of_mem_replicate hl)]
        rcases td with t | ⟨_, _, t⟩
        · exact t
        · exact t.elim
      | cons x xs =>
        refine op_repT pins s σ H _ _ v u Q I rx ry ⟨a, k, vs, rfl, rfl, ha, fun e => ?_, h2, h3, by omega, fun p np => q _ _ (resTup hO (reps_rep ra k.toNat) np)⟩
        subst e
        cases hl
    · cases hf
  · rename_i xs k
    split at hf
    · rename_i hc
      simp only [Bool.and_eq_true, decide_eq_true_eq] at hc
      obtain ⟨⟨h2, h3⟩, h4⟩ := hc
      cases te.int; cases hf
      obtain ⟨a, vs, rfl, ha, ra⟩ := td.list
      have hl := Reps.length ra
      cases rx
      obtain ⟨t, rfl⟩ := ry
      obtain ⟨its, r1, p1, z1⟩ := I.list ha
      obtain ⟨⟨c1, e1, d1, sl1⟩, n1, ho, hc1, hc2, hc3⟩ := p1
      simp only at hc1 hc2 hc3
      subst hc1 hc2 hc3
      have l1 := r1.length
      have hz : its.length * k.toNat ≤ 1000 * 1000 := Nat.mul_le_mul (by omega) (by omega)
      have hz' : vs.length * k.toNat ≤ 1000 * 1000 := Nat.mul_le_mul (by omega) (by omega)
      have hcap : ¬ its.toArray.size * k.toNat > (2 ^ 63 - 1) / 8 := by rw [List.size_toArray]; omega
      have hfit : ¬ (!Builtin.List.listFitsIndex k) = true := by
        rw [fitsIndex_both (by omega) (by omega)]
        exact Bool.false_ne_true
      have hlong : ¬ Builtin.List.listTooLong (its.toArray.size * k.toNat) = true := by
        rw [notLongL (by rw [List.size_toArray, sizeLine_eq]; omega)]
        exact Bool.false_ne_true
      have hnew : List.foldl (fun x1 x2 => x1 ++ x2) #[] (List.replicate (if its.toArray.isEmpty = true then 0 else k.toNat) its.toArray) = (List.replicate k.toNat its).flatten.toArray := by
        have f0 : ∀ m : Nat, List.foldl (fun x1 x2 => x1 ++ x2) #[] (List.replicate m its.toArray) = (List.replicate m its).flatten.toArray := fun m => by
          have := foldl_rep its m []
          rw [List.nil_append] at this
          exact this
        rw [f0]
        cases its with
        | nil => simp
        | cons a r' => rw [if_neg (by simp)]
      refine wpAny_binaryOp_repeat_ref (T := "list") (U := "int") (by decide) ⟨_, ho, rfl⟩ (fun s' => typeIs_int s' k t) noFill_list_mul F.fills_int_mul F.slot_int_rmul repeat_list F.slot_int_index.lookup
        (call_meets F.slot_int_rmul (typeIs_int s k t) F.entry_int_rmul (F.args_int_rmul_2 _ _) (int_rmul_listW k t a its.toArray n1 none sl1)
          ⟨ho, rfl, ⟨_, ho, rfl⟩, call_meets F.slot_list_mul ⟨_, ho, rfl⟩ F.entry_list_mul (F.args_list_mul_2 _ _) (list_mulW a its.toArray n1 none sl1 k t hfit hcap hlong) ⟨ho, ?_⟩⟩)
      rw [hnew]
      exact ⟨.ref _, _, I.lnew (t' := s.toks) (r1.rep k.toNat) (by rw [PyProof.Rows.lm_len_rep_flat, Nat.mul_comm, sizeLine_eq]; omega), rfl, q _ _ (resLst (reps_rep ra k.toNat) I.fresh)⟩
    · cases hf
  · rename_i x k
    split at hf
    · rename_i hc
      simp only [Bool.and_eq_true, decide_eq_true_eq] at hc
      obtain ⟨⟨⟨h2, h3⟩, h4⟩, h5⟩ := hc
      have sk := td.strOk
      cases te.int; cases td.str; cases hf
      obtain ⟨t, rfl⟩ := rx
      obtain ⟨t', rfl⟩ := ry
      have c0 : (decide (k < -(2 ^ 63 : Int)) || decide (k ≥ 2 ^ 63)) = false := by
        rw [decide_eq_false (by omega), decide_eq_false (by omega)] <;> rfl
      have hk : (k == 1 || x.length == 0) = false := by
        rw [Bool.or_eq_false_iff]
        exact ⟨beq_false_of_ne (by omega), beq_false_of_ne (by omega)⟩
      refine PySem.P.mul_str c0 (fun _ _ => ?_) (fun _ _ => ?_) ?_
      · have hd : k ≤ 1000 := h3
        have a1 : (1000 : Int) * k ≤ 2 ^ 63 - 1 := by omega
        have a2 : (1000 : Int) ≤ (2 ^ 63 - 1) / k := Int.le_ediv_of_mul_le (by omega) a1
        omega
      · have hz : x.length * k.toNat ≤ 1000 * 1000 := Nat.mul_le_mul (by omega) (by omega)
        exact decide_eq_false (by rw [sizeLine_eq]; omega)
      · rw [if_neg (by omega), if_neg (by rw [hk]; exact Bool.false_ne_true)]
        have hz : k.toNat * x.length ≤ 1000 * 1000 := Nat.mul_le_mul (by omega) (by omega)
        refine ⟨?_, .str (repS k.toNat x), H, I.tok _, ⟨_, rfl⟩, q _ H (resV (.str _ (strOk_rep sk _)))⟩
        have := repS_len k.toNat x
        rw [sizeLine_eq]
        exact Nat.le_trans (Nat.le_of_eq this) (by omega)
    · cases hf
  · cases hf
theorem od_fdiv : OpR X (binaryOp .FloorDiv) (rD2 X.K fdivD) := by
  intro pins s σ H x y v u Q I rx ry ⟨O, d, e, rv, hO, td, te, hf, q⟩
  unfold fdivD at hf
  split at hf
  · rename_i i j
    split at hf
    · rename_i hc
      simp only [Bool.and_eq_true, decide_eq_true_eq] at hc
      cases td.int; cases te.int; cases hf
      exact op_fdiv pins s σ H _ _ v u Q I rx ry ⟨i, j, rfl, rfl, hc, q _ H (resV (.int _))⟩
    · cases hf
  · cases hf
theorem od_mod : OpR X (binaryOp .Mod) (rD2 X.K modD) := by
  intro pins s σ H x y v u Q I rx ry ⟨O, d, e, rv, hO, td, te, hf, q⟩
  unfold modD at hf
  split at hf
  · rename_i i j
    split at hf
    · rename_i hc
      cases td.int; cases te.int; cases hf
      exact op_mod pins s σ H _ _ v u Q I rx ry ⟨i, j, rfl, rfl, of_decide_eq_true hc, q _ H (resV (.int _))⟩
    · cases hf
  · cases hf
theorem od_pow : OpR X (binaryOp .Pow) (rD2 X.K powD) := by
  intro pins s σ H x y v u Q I rx ry ⟨O, d, e, rv, hO, td, te, hf, q⟩
  unfold powD at hf
  split at hf
  · rename_i i j
    split at hf
    · rename_i hc
      simp only [Bool.and_eq_true, decide_eq_true_eq] at hc
      have h64 := in64_ok hc.2
      cases td.int; cases te.int; cases hf
      exact op_pow pins s σ H _ _ v u Q I rx ry ⟨i, j, rfl, rfl, ⟨hc.1.1, hc.1.2, by omega⟩, q _ H (resV (.int _))⟩
    · cases hf
  · cases hf
theorem ud_neg : UnR X (unaryOp .USub) (rD1 X.K negD) := by
  intro pins s σ H x v Q I rx ⟨O, d, rv, hO, td, hf, q⟩
  unfold negD at hf
  split at hf
  · rename_i i
    cases td.int; cases hf
    exact un_neg pins s σ H _ v Q I rx ⟨i, rfl, q _ H (resV (.int _))⟩
  · cases hf
theorem okE_ok {K : PySem.W.Frag} {H : Hp} {O : AS} {d : D} {x : V} (h : okE d = true) (t : Top K H O d x) : noDict d = true ∧ d.canLay0 = true ∧ d.depth ≤ 60 ∧ Dp K H x d := by
  unfold okE at h
  simp only [Bool.and_eq_true, decide_eq_true_eq] at h
  exact ⟨h.1, t.lay h.1, h.2, t.dp h.1⟩
theorem cmpOk_ok {pins : List (Addr × Obj)} {s : Shared} {σ : St} {H : Hp} {O : AS} {d e : D} {x y : V} {v u : Value} (hu : X.A.units + 66 < cLine) (I : Inv X pins σ H s) (rx : RelV x v) (ry : RelV y u) (td : Top X.K H O d x) (te : Top X.K H O e y) (h : cmpOk d e = true) :
    (∃ as, Reads s.heap v d as) ∧ (∃ bs, Reads s.heap u e bs) ∧ PySem.W.alike d e = true ∧ d ≠ .none ∧ X.A.units + min d.depth e.depth < cLine := by
  unfold cmpOk at h
  simp only [Bool.and_eq_true] at h
  obtain ⟨⟨⟨h1, h2⟩, h3⟩, h4⟩ := h
  obtain ⟨_, _, g1, p1⟩ := okE_ok h1 td
  obtain ⟨_, _, g2, p2⟩ := okE_ok h2 te
  exact ⟨Dp.reads I d x v p1 rx, Dp.reads I e y u p2 ry, h3, (fun e => by subst e; cases h4), by omega⟩
theorem od_lt (hu : X.A.units + 66 < cLine) : OpR X (compareOp .Lt) (rD2 X.K ltD) := by
  intro pins s σ H x y v u Q I rx ry ⟨O, d, e, rv, hO, td, te, hf, q⟩
  unfold ltD at hf
  split at hf
  · rename_i i j
    cases td.int; cases te.int; cases hf
    exact op_lt pins s σ H _ _ v u Q I rx ry ⟨i, j, rfl, rfl, q _ H resBl⟩
  · rename_i i j
    cases td.str; cases te.str; cases hf
    exact op_lt_str pins s σ H _ _ v u Q I rx ry ⟨i, j, rfl, rfl, q _ H resBl⟩
  · split at hf
    · rename_i hc
      cases hf
      obtain ⟨⟨as, r1⟩, ⟨bs, r2⟩, a1, a2, a3⟩ := cmpOk_ok hu I rx ry td te hc
      exact PySem.W.lt_data r1 r2 a1 a2 a3 ⟨.bl _, H, I, rfl, q _ H resBl⟩
    · cases hf
theorem od_le (hu : X.A.units + 66 < cLine) : OpR X (compareOp .LtE) (rD2 X.K leD) := by
  intro pins s σ H x y v u Q I rx ry ⟨O, d, e, rv, hO, td, te, hf, q⟩
  unfold leD at hf
  split at hf
  · rename_i i j
    cases td.int; cases te.int; cases hf
    exact op_le pins s σ H _ _ v u Q I rx ry ⟨i, j, rfl, rfl, q _ H resBl⟩
  · split at hf
    · rename_i hc
      cases hf
      obtain ⟨⟨as, r1⟩, ⟨bs, r2⟩, a1, a2, a3⟩ := cmpOk_ok hu I rx ry td te hc
      exact PySem.W.le_data r1 r2 a1 a2 a3 ⟨.bl _, H, I, rfl, q _ H resBl⟩
    · cases hf
theorem od_gt (hu : X.A.units + 66 < cLine) : OpR X (compareOp .Gt) (rD2 X.K gtD) := by
  intro pins s σ H x y v u Q I rx ry ⟨O, d, e, rv, hO, td, te, hf, q⟩
  unfold gtD at hf
  split at hf
  · rename_i i j
    cases td.int; cases te.int; cases hf
    exact op_gt pins s σ H _ _ v u Q I rx ry ⟨i, j, rfl, rfl, q _ H resBl⟩
  · split at hf
    · rename_i hc
      cases hf
      obtain ⟨⟨as, r1⟩, ⟨bs, r2⟩, a1, a2, a3⟩ := cmpOk_ok hu I rx ry td te hc
      exact PySem.W.gt_data r1 r2 a1 a2 a3 ⟨.bl _, H, I, rfl, q _ H resBl⟩
    · cases hf
theorem od_ge (hu : X.A.units + 66 < cLine) : OpR X (compareOp .GtE) (rD2 X.K geD) := by
  intro pins s σ H x y v u Q I rx ry ⟨O, d, e, rv, hO, td, te, hf, q⟩
  unfold geD at hf
  split at hf
  · rename_i i j
    cases td.int; cases te.int; cases hf
    exact op_ge pins s σ H _ _ v u Q I rx ry ⟨i, j, rfl, rfl, q _ H resBl⟩
  · split at hf
    · rename_i hc
      cases hf
      obtain ⟨⟨as, r1⟩, ⟨bs, r2⟩, a1, a2, a3⟩ := cmpOk_ok hu I rx ry td te hc
      exact PySem.W.ge_data r1 r2 a1 a2 a3 ⟨.bl _, H, I, rfl, q _ H resBl⟩
    · cases hf
theorem shaped_of {d : D} (h : d.canLay0 = true) (g : d.depth ≤ 60) : SeqAt.shaped d = true := by
  unfold SeqAt.shaped
  rw [h]
  simp only [Bool.true_and, decide_eq_true_eq]
  omega
theorem od_eq (hu : X.A.units + 66 < cLine) : OpR X (compareOp .Eq) (rD2 X.K eqD) := by
  intro pins s σ H x y v u Q I rx ry ⟨O, d, e, rv, hO, td, te, hf, q⟩
  unfold eqD at hf
  split at hf
  · rename_i hc
    simp only [Bool.and_eq_true] at hc
    obtain ⟨_, l1, g1, p1⟩ := okE_ok hc.1 td
    obtain ⟨_, l2, g2, p2⟩ := okE_ok hc.2 te
    cases hf
    exact op_eqD (by omega) pins s σ H x y v u Q I rx ry ⟨d, e, p1, p2, shaped_of l1 g1, shaped_of l2 g2, q _ H resBl⟩
  · split at hf
    · rename_i ds _
      cases hf
      obtain ⟨a, vs, rfl, ha, ra⟩ := td.tuple
      obtain ⟨b, ws, rfl, hb, rb⟩ := te.tuple
      cases rb
      cases rx; cases ry
      obtain ⟨its, r1, p1, z1⟩ := I.tuple ha
      obtain ⟨its2, r2, p2, z2⟩ := I.tuple hb
      cases r2
      have hl := r1.length
      have hm := ra.length
      have e2 : ((List.range (min its.toArray.size ([] : List Value).toArray.size)).all (fun _ => true) && its.toArray.size == ([] : List Value).toArray.size) = ds.isEmpty := by
        cases ds with
        | nil =>
          have : its = [] := List.eq_nil_of_length_eq_zero (by rw [← hl, ← hm]; rfl)
          subst this; rfl
        | cons d ds =>
          cases its with
          | nil => rw [← hm] at hl; cases hl
          | cons i its => simp
      exact PySem.W.eq_tuplesT (n := 0) (e := fun _ => true) (show s.heap.IsTuple a its.toArray from p1) (show s.heap.IsTuple b ([] : List Value).toArray from p2) (fun j h1 h2 => absurd h2 (by simp)) (by omega) (by rw [e2]; exact ⟨.bl _, H, I, rfl, q _ H resBl⟩)
    · cases hf
      obtain ⟨a, ks, rfl, ha, ra⟩ := td.dict rfl
      obtain ⟨b, ls, rfl, hb, rb⟩ := te.dict rfl
      cases ra; cases rb
      exact op_eqV (by omega) pins s σ H (.ref a) (.ref b) v u Q I rx ry ⟨0, by omega, .inr ⟨a, b, [], [], rfl, rfl, ha, hb, rfl, fun p hp => nomatch hp⟩, q _ H resBl⟩
    · cases hf
theorem od_ne (hu : X.A.units + 66 < cLine) : OpR X (compareOp .NotEq) (rD2 X.K neD) := by
  intro pins s σ H x y v u Q I rx ry ⟨O, d, e, rv, hO, td, te, hf, q⟩
  unfold neD at hf
  split at hf
  · rename_i hc
    simp only [Bool.and_eq_true] at hc
    obtain ⟨_, l1, g1, p1⟩ := okE_ok hc.1 td
    obtain ⟨_, l2, g2, p2⟩ := okE_ok hc.2 te
    cases hf
    exact op_neD (by omega) pins s σ H x y v u Q I rx ry ⟨d, e, p1, p2, shaped_of l1 g1, shaped_of l2 g2, q _ H resBl⟩
  · cases hf
theorem sign_of {x : Str} {c : Nat} (h : x.cps.toList = [c]) : x = ⟨#[c]⟩ := by
  obtain ⟨a⟩ := x
  have e : a = #[c] := by
    have := congrArg List.toArray h
    simpa using this
  rw [e]
/-- whether x stands in y, or does not -/
theorem od_in' {neg : Bool} (hu : X.A.units + 66 < cLine) {pins : List (Addr × Obj)} {s : Shared} {σ : L2.St} {H : Hp} {x y : V} {v u : Value} {Q : VK} {O : AS} {d e : D} {b : Bool}
    (I : Inv X pins σ H s) (rx : RelV x v) (ry : RelV y u) (td : Top X.K H O d x) (te : Top X.K H O e y) (hf : inD d e = some (.v (.bool b))) (q : Q (.bl (if neg then !b else b)) H) :
    wpAny (model X.prog X.w) X.A (compareOp (if neg then .NotIn else .In) v u) (EP X pins σ Q) X.xe s := by
  have dropD : ∀ ys : List D, (okE d && noDicts ys) = true → okE d = true ∧ noDicts ys = true := fun ys h => by simpa only [Bool.and_eq_true] using h
  unfold inD at hf
  split at hf
  · rename_i ys
    split at hf
    · rename_i hc
      obtain ⟨c1, c2⟩ := dropD _ hc
      obtain ⟨_, l1, g1, p1⟩ := okE_ok c1 td
      have n2 : noDict (.list ys) = true := by simpa [noDict] using c2
      obtain ⟨as, r1⟩ := Dp.reads I _ _ _ p1 rx
      obtain ⟨bs, r2⟩ := Dp.reads I _ _ _ (te.dp n2) ry
      have l2 : PyData.canLayAll0 ys = true := by have := te.lay n2; rwa [PyData.canLay0] at this
      have hm : min (PyData.depthAll ys) d.depth ≤ d.depth := Nat.min_le_right _ _
      cases hf
      cases neg with
      | false => exact SeqAt.in_list_reads r2 r1 l2 l1 (by omega) ⟨.bl _, H, I, rfl, q⟩
      | true => exact SeqAt.notIn_list_reads r2 r1 l2 l1 (by omega) ⟨.bl _, H, I, rfl, q⟩
    · cases hf
  · rename_i ys
    split at hf
    · rename_i hc
      obtain ⟨c1, c2⟩ := dropD _ hc
      obtain ⟨_, l1, g1, p1⟩ := okE_ok c1 td
      have n2 : noDict (.tuple ys) = true := by simpa [noDict] using c2
      obtain ⟨as, r1⟩ := Dp.reads I _ _ _ p1 rx
      obtain ⟨bs, r2⟩ := Dp.reads I _ _ _ (te.dp n2) ry
      have l2 : PyData.canLayAll0 ys = true := by have := te.lay n2; rwa [PyData.canLay0] at this
      have hm : min (PyData.depthAll ys) d.depth ≤ d.depth := Nat.min_le_right _ _
      cases hf
      cases neg with
      | false => exact SeqAt.in_tuple_reads r2 r1 l2 l1 (by omega) ⟨.bl _, H, I, rfl, q⟩
      | true => exact SeqAt.notIn_tuple_reads r2 r1 l2 l1 (by omega) ⟨.bl _, H, I, rfl, q⟩
    · cases hf
  · rename_i x' z
    split at hf
    · rename_i c hx
      cases td.str; cases te.str
      have ex := sign_of hx
      subst ex
      cases hf
      cases neg with
      | false => exact op_in_sign pins s σ H _ _ v u Q I rx ry ⟨c, z, rfl, rfl, q⟩
      | true => exact op_notIn_sign pins s σ H _ _ v u Q I rx ry ⟨c, z, rfl, rfl, q⟩
    · cases hf
  · rename_i x' ds
    split at hf
    · rename_i hk
      rw [Bool.and_eq_true] at hk
      obtain ⟨hk, hn⟩ := hk
      obtain ⟨k, rfl⟩ := isKD_ok hk
      have ex : x = kV k := by
        cases k with
        | inl i => exact td.int
        | inr i => exact td.str
      subst ex
      obtain ⟨a, kvs, rfl, e, r⟩ := te.dict (by simpa using hn)
      cases ry
      have g : DGet H a (kV k) (valV kvs k) := DGet.k e
      have ee : (getK ds (kD k)).isSome = (valV kvs k).isSome := by
        rcases getK_ok (k := k) r with ⟨g1, g2⟩ | ⟨_, _, g1, g2, _⟩ <;> rw [g1, g2] <;> rfl
      cases hf
      rw [ee] at q
      cases neg with
      | false => exact d_in (by omega) I g rx fun s' I' => ⟨.bl (valV kvs k).isSome, H, I', rfl, q⟩
      | true => exact d_notIn (by omega) I g rx fun s' I' => ⟨.bl (!(valV kvs k).isSome), H, I', rfl, q⟩
    · cases hf
  · cases hf
theorem inD_bool {d e : D} {rv : RV} (h : inD d e = some rv) : ∃ b, rv = .v (.bool b) := by
  unfold inD bl at h
  split at h
  · split at h <;> first | (cases h; exact ⟨_, rfl⟩) | cases h
  · split at h <;> first | (cases h; exact ⟨_, rfl⟩) | cases h
  · split at h <;> first | (cases h; exact ⟨_, rfl⟩) | cases h
  · split at h <;> first | (cases h; exact ⟨_, rfl⟩) | cases h
  · cases h
theorem od_in (hu : X.A.units + 66 < cLine) : OpR X (compareOp .In) (rD2 X.K inD) := by
  intro pins s σ H x y v u Q I rx ry ⟨O, d, e, rv, hO, td, te, hf, q⟩
  obtain ⟨b, rfl⟩ := inD_bool hf
  exact od_in' (neg := false) hu I rx ry td te hf (q _ H resBl)
theorem od_notIn (hu : X.A.units + 66 < cLine) : OpR X (compareOp .NotIn) (rD2 X.K notInD) := by
  intro pins s σ H x y v u Q I rx ry ⟨O, d, e, rv, hO, td, te, hf, q⟩
  unfold notInD at hf
  split at hf
  · rename_i b hb
    cases hf
    exact od_in' (neg := true) hu I rx ry td te hb (q _ H resBl)
  · cases hf
theorem top_non {K : PySem.W.Frag} {H : Hp} {O : AS} {d : D} {x : V} (t : Top K H O d x) : (decide (x = .non)) = isN d := by
  rcases t with t | ⟨a, rfl, t⟩
  · cases t <;> rfl
  · cases d <;> first | exact (show False from t).elim | rfl
theorem od_is' {neg : Bool} {pins : List (Addr × Obj)} {s : Shared} {σ : L2.St} {H : Hp} {x y : V} {v u : Value} {Q : VK} {O : AS} {d e : D} {b : Bool}
    (I : Inv X pins σ H s) (rx : RelV x v) (ry : RelV y u) (td : Top X.K H O d x) (te : Top X.K H O e y) (hf : isD d e = some (.v (.bool b))) (q : Q (.bl (if neg then !b else b)) H) :
    wpAny (model X.prog X.w) X.A (compareOp (if neg then .IsNot else .Is) v u) (EP X pins σ Q) X.xe s := by
  unfold isD bl at hf
  split at hf
  · cases te.non
    have e := top_non td
    cases hf
    rw [← e] at q
    cases neg with
    | false => exact op_isN pins s σ H _ _ v u Q I rx ry ⟨rfl, q⟩
    | true => exact op_notN pins s σ H _ _ v u Q I rx ry ⟨rfl, q⟩
  · rename_i a c
    cases td.bl; cases te.bl; cases hf
    cases neg with
    | false => exact op_is_bl pins s σ H _ _ v u Q I rx ry ⟨a, c, rfl, rfl, q⟩
    | true => exact op_isnot_bl pins s σ H _ _ v u Q I rx ry ⟨a, c, rfl, rfl, q⟩
  · cases hf
theorem isD_bool {d e : D} {rv : RV} (h : isD d e = some rv) : ∃ b, rv = .v (.bool b) := by
  unfold isD bl at h
  split at h <;> first | (cases h; exact ⟨_, rfl⟩) | cases h
theorem od_is : OpR X (compareOp .Is) (rD2 X.K isD) := by
  intro pins s σ H x y v u Q I rx ry ⟨O, d, e, rv, hO, td, te, hf, q⟩
  obtain ⟨b, rfl⟩ := isD_bool hf
  exact od_is' (neg := false) I rx ry td te hf (q _ H resBl)
theorem od_isNot : OpR X (compareOp .IsNot) (rD2 X.K isNotD) := by
  intro pins s σ H x y v u Q I rx ry ⟨O, d, e, rv, hO, td, te, hf, q⟩
  unfold isNotD at hf
  split at hf
  · rename_i b hb
    cases hf
    exact od_is' (neg := true) I rx ry td te hb (q _ H resBl)
  · cases hf
theorem atI_reps {K : PySem.W.Frag} {H : Hp} {O : AS} {ds : List D} {vs : List V} {i : Int} {d : D} (r : Reps K H O ds vs) (h : atI ds i = some d) : ∃ v, atI vs i = some v ∧ Rep K H O d v := by
  unfold atI at h ⊢
  rw [← r.length]
  cases e : ixN ds.length i with
  | none => rw [e] at h; cases h
  | some j =>
    rw [e] at h
    exact r.get h
theorem ixd (hu : X.A.units + 66 < cLine) : IxR X (rD2 X.K ixD) := by
  intro value slice pins s σ H x y v u Q I rx ry ⟨O, d, e, rv, hO, td, te, hf, q⟩ hs
  unfold ixD at hf
  split at hf
  · rename_i xs i
    cases te.int
    obtain ⟨a, vs, rfl, ha, ra⟩ := td.list
    cases hx : atI xs i with
    | none => rw [hx] at hf; cases hf
    | some w =>
      rw [hx] at hf; cases hf
      obtain ⟨z, e1, e2⟩ := atI_reps ra hx
      exact ix_list value slice pins s σ H _ _ v u Q I rx ry ⟨a, vs, i, z, rfl, rfl, ha, e1, q _ _ (resV e2)⟩ hs
  · rename_i xs i
    cases te.int
    obtain ⟨a, vs, rfl, ha, ra⟩ := td.tuple
    cases hx : atI xs i with
    | none => rw [hx] at hf; cases hf
    | some w =>
      rw [hx] at hf; cases hf
      obtain ⟨z, e1, e2⟩ := atI_reps ra hx
      exact ix_tup value slice pins s σ H _ _ v u Q I rx ry ⟨a, vs, i, z, rfl, rfl, ha, e1, q _ _ (resV e2)⟩ hs
  · rename_i z i
    split at hf
    · rename_i hz
      have sk := td.strOk
      cases te.int; cases td.str
      cases hx : atI z.cps.toList i with
      | none => rw [hx] at hf; cases hf
      | some w =>
        rw [hx] at hf; cases hf
        have hm : w ∈ z.cps.toList := by
          unfold atI at hx
          cases e : ixN z.cps.toList.length i with
          | none => rw [e] at hx; cases hx
          | some j => rw [e] at hx; exact List.mem_of_getElem? hx
        exact ix_str value slice pins s σ H _ _ v u Q I rx ry ⟨z, i, w, rfl, rfl, szb_ok hz, hx, q _ _ (resV (.str _ (strOk_one sk hm)))⟩ hs
    · cases hf
  · rename_i ds x'
    split at hf
    · rename_i hk
      obtain ⟨k, rfl⟩ := isKD_ok hk
      have ex : y = kV k := by
        cases k with
        | inl i => exact te.int
        | inr i => exact te.str
      subst ex
      have hn : ∀ ds, isFn ds = true → getK ds (kD k) = none := fun ds h => by
        unfold isFn at h
        split at h
        · unfold getK
          rw [List.find?_cons, show dEq .none (kD k) = false by cases k <;> rfl]; rfl
        · cases h
      obtain ⟨a, kvs, rfl, e, r⟩ := td.dict (by
        cases q : isFn _ with
        | false => rfl
        | true => rw [hn _ q] at hf; cases hf)
      cases rx
      rcases getK_ok (k := k) r with ⟨g1, g2⟩ | ⟨d', v', g1, g2, g3⟩
      · rw [g1] at hf; cases hf
      · rw [g1] at hf; cases hf
        have g : DGet H a (kV k) (some v') := by rw [← g2]; exact DGet.k e
        exact tail_any (dict_typeIs I g) PySem.F.slot_dict_getitem.lookup (d_getItem (by omega) I g ry fun w' s3 I3 rw' => ⟨v', H, I3, rw', q _ _ (resV g3)⟩) hs
    · cases hf
  · cases hf
end
end Z
namespace Z
/-! sorted(t) of a tuple -/
section
open PySem PySem.Calls PyProof.Rows PySem.W
variable {prog : Program} {w : World} {M : Model} {A : Around} {E : Value → Shared → Prop} {s : Shared} {β : Type} {vs : List Value} {bs : List β} {enc : β → PyData} {R : Value → β → Prop}
theorem collect_tup {l : Addr} {Q : List Value → Shared → Prop} (hl : IsTup s.heap l vs.toArray)
    (h : Q vs { s with heap := (s.heap.push (seqObj "list" #[] 0)).update s.heap.objs.size (Obj.mapSeq (· ++ vs.toArray)) }) (hsz : vs.length ≤ sizeLine) :
    wpAny (model prog w) A (collect (.ref l)) Q E s := by
  obtain ⟨o, ho, hc, n, hd⟩ := id hl
  unfold collect
  refine wpAny_bind (wpAny_runValue (codeAny_builtin entry_proto_collect' ?_))
  show wpAny _ _ (do again (.builtin "list.__iadd__" ⟨[← newList [], .ref l], []⟩)) _ _ s
  refine wpAny_bind (wpAny_newList (wpAny_pure ⟨Code.quiet_builtin _ (by decide +kernel), codeAny_builtin entry_list_iadd' ?_⟩))
  show wpAny _ _ (Builtin.List.listExtendWith (.ref s.heap.objs.size) (.ref l) (.ref s.heap.objs.size)) _ _ { s with heap := s.heap.push (seqObj "list" #[] 0) }
  unfold Builtin.List.listExtendWith
  have ho' : (s.heap.push (seqObj "list" #[] 0)).get? l = some o := Heap.get?_push_of_some _ ho
  refine wpAny_bind (wpAny_typeOf (T := "tuple") ⟨o, ho', hc⟩ ?_)
  have ht : (Value.type "tuple" == Value.type "tuple") = true := by rfl
  rw [if_pos (by rw [ht]; simp)]
  refine wpAny_bind (listItems_at ho' hd ?_)
  refine wpAny_bind (listItems_at (xs := #[]) (n := 0) (Heap.get?_push_size _ rfl) rfl ?_)
  rw [if_neg (by simp)]
  refine wpAny_bind (listUpdate_at (xs := #[]) (n := 0) (Heap.get?_push_size _ rfl) rfl ?_ (Nat.zero_le _) (by show (#[] ++ vs.toArray).size ≤ sizeLine + 1; simp only [Array.size_append, List.size_toArray, List.length_nil]; omega))
  refine wpAny_pure ?_
  show wpAny (model prog w) A (do
      let o ← load s.heap.objs.size
      match o.data with
      | .seq xs _ => pure xs.toList
      | _ => unsupported "internal:collect") Q E { s with heap := (s.heap.push (seqObj "list" #[] 0)).update s.heap.objs.size (Obj.mapSeq (· ++ vs.toArray)) }
  refine wpAny_bind (wpAny_load (get?_update_seq (Heap.get?_push_size _ rfl) _) ?_)
  show wpAny _ _ (pure ((#[] : Array Value) ++ vs.toArray).toList) Q E _
  rw [show ((#[] : Array Value) ++ vs.toArray).toList = vs by simp]
  exact wpAny_pure h
theorem sorted_of_sort_t {l : Addr} {kw : List (Str × Value)} {Q : Value → Shared → Prop} (hl : IsTup s.heap l vs.toArray) (hL : vs.length ≤ sizeLine) (ha1 : argsOk "sorted" ⟨[.ref l], kw⟩) (ha2 : ∀ x, argsOk "list.sort" ⟨[.ref x], kw⟩)
    (body : ∀ E' : Value → Shared → Prop, wpAny (model prog w) A.in1.in1 (Builtin.«list.sort» ⟨[.ref (s.heap.objs.size + 1)], kw⟩) (fun f s' => f = .done (.ret .none) ∧ Q (.ref (s.heap.objs.size + 1)) s') E' { s with heap := copyHeap s.heap vs }) :
    wpAny (model prog w) A (call (.builtin "sorted") [.ref l] kw) Q E s := by
  refine call_function_entry_kw kind_sorted plain_sorted entry_sorted ha1 ?_
  unfold Builtin.«sorted»
  refine wpAny_bind (m := checkCount "sorted" 1 1 _) (wpAny_pure ?_)
  refine wpAny_bind (collect_tup hl ?_ hL)
  refine wpAny_bind (wpAny_newList ?_ hL)
  have hsz : ((s.heap.push (seqObj "list" #[] 0)).update s.heap.objs.size (Obj.mapSeq (· ++ vs.toArray))).objs.size = s.heap.objs.size + 1 := by
    rw [Heap.size_update, size_push']
  show wpAny _ _ _ _ _ { s with heap := copyHeap s.heap vs }
  rw [hsz]
  refine wpAny_bind (wpAny_holding (wpAny_call_entry_kw slot_list_sort ⟨_, copyHeap_at s.heap vs, rfl⟩ entry_list_sort ?body (ha2 _)))
  case body =>
    show wpAny (model prog w) A.in1.in1 (Builtin.«list.sort» ⟨[.ref (s.heap.objs.size + 1)], kw⟩) _ _ _
    refine wpAny_mono (body _) (fun f s' hf => ?_) fun _ _ e => e
    obtain ⟨rfl, hq⟩ := hf
    exact ⟨_, rfl, wpAny_pure ⟨_, rfl, hq⟩⟩
theorem sorted_vals_t {κ : PyProof.Rows.KeyKind} {l : Addr} {Q : Value → Shared → Prop} (hl : IsTup s.heap l vs.toArray) (S : SortsAt prog w A.in1.in1 { s with heap := sortingHeap (copyHeap s.heap vs) (s.heap.objs.size + 1) vs } κ vs) (hL : vs.length ≤ sizeLine)
    (h : Q (.ref (s.heap.objs.size + 1)) { s with heap := sortedAll s.heap vs (sortVals κ false vs vs).toArray }) : wpAny (model prog w) A (call (.builtin "sorted") [.ref l]) Q E s :=
  sorted_of_sort_t hl hL (args_sorted1 _) (fun _ => args_list_sort _) fun _ => list_sort_vals (s := { s with heap := copyHeap s.heap vs }) (copyHeap_at s.heap vs) S hL ⟨rfl, h⟩
theorem SortsAt.few {vs : List Value} {ds : List PyData} (e : EachIs (fun v d => ∃ as, Reads s.heap v d as) vs ds) (hal : AllAlike ds) (hn : ∀ d, d ∈ ds → d ≠ .none) (hl : vs.length ≤ 1) (hu : ∀ d, d ∈ ds → A.units + d.depth < cLine) : SortsAt prog w A s (dataKind s.heap ds) vs := by
  have room : ∀ {d d' : PyData}, d ∈ ds → A.units + min d.depth d'.depth < cLine := fun {d d'} hd => Nat.lt_of_le_of_lt (Nat.add_le_add_left (Nat.min_le_left _ _) _) (hu d hd)
  refine ⟨fun v hv => ?_, general', ?_, fun h2 E Q hq => absurd h2 (by omega)⟩
  · obtain ⟨d, hd, as, r⟩ := e.left v hv
    exact ⟨_, dataKind_some hal hd r⟩
  · intro E x y a b Q ha hb hq
    obtain ⟨d, as, hd, ra, rfl⟩ := dataKind_inv ha
    obtain ⟨d', as', hd', rb, rfl⟩ := dataKind_inv hb
    show wpAny (model prog w) A (oneLt' false x y) Q E s
    exact oneLt_alike (fun h => by cases h) ra rb (hal d hd d' hd') (hn d hd) (room hd) hq
def Sortable1 (ds : List PyData) : Prop := Sortable ds ∨ (ds.length ≤ 1 ∧ ∀ d, d ∈ ds → d ≠ .none)
theorem SortsAt.data1 {vs : List Value} {ds : List PyData} (e : EachIs (fun v d => ∃ as, Reads s.heap v d as) vs ds) (hal : AllAlike ds) (hk : Sortable1 ds) (hu : ∀ d, d ∈ ds → A.units + d.depth < cLine) : SortsAt prog w A s (dataKind s.heap ds) vs := by
  rcases hk with hk | ⟨hk, hn⟩
  · exact SortsAt.data e hal hk hu
  · exact SortsAt.few e hal hn (by rw [e.length]; exact hk) hu
theorem sorted_data_t {l : Addr} {Q : Value → Shared → Prop} (hl : IsTup s.heap l vs.toArray) (e : EachIs R vs bs) (er : EachIs (fun v b => ∃ as, Reads s.heap v (enc b) as) vs bs) (hal : AllAlike (bs.map enc)) (hk : Sortable1 (bs.map enc)) (hL : bs.length ≤ sizeLine)
    (hu : ∀ b, b ∈ bs → A.units + 2 + (enc b).depth < cLine) (h : ∀ out, out.length = bs.length → EachIs R out (bs.mergeSort (dataLe false enc)) → Q (.ref (s.heap.objs.size + 1)) { s with heap := sortedAll s.heap vs (List.toArray out) }) :
    wpAny (model prog w) A (call (.builtin "sorted") [.ref l]) Q E s := by
  have er' : EachIs (fun v b => ∃ as, Reads (sortingHeap (copyHeap s.heap vs) (s.heap.objs.size + 1) vs) v (enc b) as) vs bs := er.mono fun _ _ ⟨as, r⟩ => ⟨as, PyProof.Rows.Reads.keeps (fun _ _ => sorting_copy_old) r⟩
  exact sorted_vals_t hl (SortsAt.data1 (s := { s with heap := sortingHeap (copyHeap s.heap vs) (s.heap.objs.size + 1) vs }) (each_map (R := fun v d => ∃ as, Reads (sortingHeap (copyHeap s.heap vs) (s.heap.objs.size + 1) vs) v d as) enc er') hal hk (bound_map hu)) (by rw [e.length]; exact hL)
    (h _ (by rw [sortVals_length false rfl]; exact e.length) (sortVals_data false e er' hal))
theorem sorted_data_l {l : Addr} {Q : Value → Shared → Prop} (hl : s.heap.IsList l vs.toArray) (e : EachIs R vs bs) (er : EachIs (fun v b => ∃ as, Reads s.heap v (enc b) as) vs bs) (hal : AllAlike (bs.map enc)) (hk : Sortable1 (bs.map enc)) (hL : bs.length ≤ sizeLine)
    (hu : ∀ b, b ∈ bs → A.units + 2 + (enc b).depth < cLine) (h : ∀ out, out.length = bs.length → EachIs R out (bs.mergeSort (dataLe false enc)) → Q (.ref (s.heap.objs.size + 1)) { s with heap := sortedAll s.heap vs (List.toArray out) }) :
    wpAny (model prog w) A (call (.builtin "sorted") [.ref l]) Q E s := by
  have er' : EachIs (fun v b => ∃ as, Reads (sortingHeap (copyHeap s.heap vs) (s.heap.objs.size + 1) vs) v (enc b) as) vs bs := er.mono fun _ _ ⟨as, r⟩ => ⟨as, PyProof.Rows.Reads.keeps (fun _ _ => sorting_copy_old) r⟩
  exact sorted_vals hl (SortsAt.data1 (s := { s with heap := sortingHeap (copyHeap s.heap vs) (s.heap.objs.size + 1) vs }) (each_map (R := fun v d => ∃ as, Reads (sortingHeap (copyHeap s.heap vs) (s.heap.objs.size + 1) vs) v d as) enc er') hal hk (bound_map hu)) (by rw [e.length]; exact hL)
    (h _ (by rw [sortVals_length false rfl]; exact e.length) (sortVals_data false e er' hal))
end
open PySem PySem.Spec L2
open PyProof.Rows hiding St

/-! ## built-ins on data -/
def intsOf : List D → Option (List Int)
  | [] => some []
  | .int i :: r => (intsOf r).map (i :: ·)
  | _ :: _ => none
def boolsOf : List D → Option (List Bool)
  | [] => some []
  | .bool i :: r => (boolsOf r).map (i :: ·)
  | _ :: _ => none
def strsOf : List D → Option (List Str)
  | [] => some []
  | .str i :: r => (strsOf r).map (i :: ·)
  | _ :: _ => none
theorem intsOf_ok : ∀ {ds : List D} {ns : List Int}, intsOf ds = some ns → ds = ns.map .int
  | [], ns, h => by cases h; rfl
  | d :: r, ns, h => by
    unfold intsOf at h
    split at h
    · rename_i e; cases e
    · rename_i i r' e
      obtain ⟨e1, e2⟩ := List.cons.inj e
      subst e1; subst e2
      cases q : intsOf r with
      | none => rw [q] at h; cases h
      | some ms => rw [q] at h; cases h; rw [intsOf_ok q]; rfl
    · cases h
theorem boolsOf_ok : ∀ {ds : List D} {ns : List Bool}, boolsOf ds = some ns → ds = ns.map .bool
  | [], ns, h => by cases h; rfl
  | d :: r, ns, h => by
    unfold boolsOf at h
    split at h
    · rename_i e; cases e
    · rename_i i r' e
      obtain ⟨e1, e2⟩ := List.cons.inj e
      subst e1; subst e2
      cases q : boolsOf r with
      | none => rw [q] at h; cases h
      | some ms => rw [q] at h; cases h; rw [boolsOf_ok q]; rfl
    · cases h
theorem strsOf_ok : ∀ {ds : List D} {ns : List Str}, strsOf ds = some ns → ds = ns.map .str
  | [], ns, h => by cases h; rfl
  | d :: r, ns, h => by
    unfold strsOf at h
    split at h
    · rename_i e; cases e
    · rename_i i r' e
      obtain ⟨e1, e2⟩ := List.cons.inj e
      subst e1; subst e2
      cases q : strsOf r with
      | none => rw [q] at h; cases h
      | some ms => rw [q] at h; cases h; rw [strsOf_ok q]; rfl
    · cases h
theorem intsOf_map : ∀ ns : List Int, intsOf (ns.map .int) = some ns
  | [] => rfl
  | n :: ns => by rw [List.map_cons, intsOf, intsOf_map ns]; rfl
theorem boolsOf_map : ∀ ns : List Bool, boolsOf (ns.map .bool) = some ns
  | [] => rfl
  | n :: ns => by rw [List.map_cons, boolsOf, boolsOf_map ns]; rfl
theorem strsOf_map : ∀ ns : List Str, strsOf (ns.map .str) = some ns
  | [] => rfl
  | n :: ns => by rw [List.map_cons, strsOf, strsOf_map ns]; rfl
def lenD : List D → Option RV
  | [.list ds] => some (.v (.int ds.length))
  | [.tuple ds] => some (.v (.int ds.length))
  | [.dict ds] => if isFn ds then none else some (.v (.int ds.length))
  | [.str s] => if szb s.length then some (.v (.int s.length)) else none
  | _ => none
def intD : List D → Option RV
  | [.int i] => some (.v (.int i))
  | [.bool b] => some (.v (.int (if b then 1 else 0)))
  | [.str s] => if decide (s.length ≤ 640) then (PySem.intText? s).map fun n => .v (.int n) else none
  | _ => none
def absD : List D → Option RV
  | [.int i] => some (.v (.int (if i < 0 then -i else i)))
  | _ => none
def maxOf : List Int → Int
  | [] => 0
  | [x] => x
  | x :: y :: r => if maxOf (y :: r) > x then maxOf (y :: r) else x
def minOf : List Int → Int
  | [] => 0
  | [x] => x
  | x :: y :: r => if minOf (y :: r) < x then minOf (y :: r) else x
def maxD : List D → Option RV
  | [.int i, .int j] => some (.v (.int (if j > i then j else i)))
  | [.list ds] => match intsOf ds with
    | some (n :: ns) => some (.v (.int (maxOf (n :: ns))))
    | _ => none
  | _ => none
def minD : List D → Option RV
  | [.int i, .int j] => some (.v (.int (if j < i then j else i)))
  | [.list ds] => match intsOf ds with
    | some (n :: ns) => some (.v (.int (minOf (n :: ns))))
    | _ => none
  | _ => none
def sumD : List D → Option RV
  | [.list ds] => (intsOf ds).map fun ns => .v (.int ns.sum)
  | _ => none
def allD : List D → Option RV
  | [.list ds] => (boolsOf ds).map fun bs => .v (.bool (bs.all id))
  | _ => none
def anyD : List D → Option RV
  | [.list ds] => (boolsOf ds).map fun bs => .v (.bool (bs.any id))
  | _ => none
def divmodD : List D → Option RV
  | [.int i, .int j] => if decide (0 < j) && decide (j < 1073741824) then some (.v (.tuple [.int (i / j), .int (i % j)])) else none
  | _ => none
def tupleD : List D → Option RV
  | [.list ds] => some (.v (.tuple ds))
  | [.tuple ds] => some (.v (.tuple ds))
  | _ => none
def listD : List D → Option RV
  | [.list ds] => some (.o (.list ds))
  | [.tuple ds] => some (.o (.list ds))
  | [.dict ds] => if isFn ds then none else some (.o (.list (ds.map (·.1))))
  | _ => none
def strD : List D → Option RV
  | [.int i] => if decide (i.natAbs.log2 < 1920) then some (.v (.str (toString i))) else none
  | _ => none
/-- the smallest first -/
def srtOk (ds : List D) : Bool := (ds.all fun d => ds.all fun e => PySem.W.alike d e) && (ds.all okE && ((ds.all fun d => match d with
  | .tuple (_ :: _) => true
  | _ => false) || ds.all fun d => match d with
  | .none => false
  | .tuple _ => false
  | _ => true))
def sortL (ds : List D) : List D := ds.mergeSort (PySem.W.dataLe false id)
/-- one thing alone -/
def oneOk (ds : List D) : Bool := decide (ds.length ≤ 1) && ((ds.all fun d => ds.all fun e => PySem.W.alike d e) && (ds.all okE && ds.all fun d => match d with
  | .none => false
  | _ => true))
def srtD (ds : List D) : Option RV := if srtOk ds || oneOk ds then some (.o (.list (sortL ds))) else none
def sortedD : List D → Option RV
  | [.list ds] => srtD ds
  | [.tuple ds] => srtD ds
  | _ => none
theorem srtD_ok {ds : List D} (h : srtOk ds = true) : srtD ds = some (.o (.list (sortL ds))) := by
  unfold srtD
  rw [h, Bool.true_or, if_pos rfl]
def joinD (a : D) : List D → Option RV
  | [.list ds] => match a, strsOf ds with
    | .str s, some ys => if szb ((ys.map (·.length)).sum + ys.length * s.length) then some (.v (.str (Txt.join s ys))) else none
    | _, _ => none
  | _ => none

theorem strOk_of (x : String) : PyData.strOk (Str.ofString x) = true := by
  rw [strOk_iff, Str.ofString_eq_toList]
  intro c hc
  have hc : c ∈ (x.toList.map Char.toNat).toArray.toList := hc
  rw [List.toList_toArray] at hc
  obtain ⟨d, _, e⟩ := List.mem_map.mp hc
  rw [← e]
  have := d.valid
  rcases this with h | ⟨_, h⟩
  · have : d.toNat < 0xd800 := h
    omega
  · exact h
section
variable {X : Cx}
theorem reps_list {K : PySem.W.Frag} {H : Hp} {O : AS} {ds : List D} {v : V} (t : Top K H O (.list ds) v) : ∃ a vs, v = .ref a ∧ SqL K H a vs ∧ Reps K H O ds vs := t.list
theorem cd_len : CallR X (.builtin "len") (rDs X.K lenD) := by
  intro pins s σ H xs us Q I r ⟨O, ds, rv, hO, ts, hf, q⟩
  unfold lenD at hf
  split at hf
  · rename_i es
    match xs, ts with
    | [x], ⟨t, _⟩ =>
      obtain ⟨a, vs, rfl, ha, ra⟩ := t.list
      cases hf
      exact call_len_seq pins s σ H _ us Q I r ⟨a, vs, rfl, .inl ha, by rw [← ra.length]; exact q _ H (resV (.int _))⟩
    | _ :: _ :: _, ⟨_, t⟩ => exact t.elim
  · rename_i es
    match xs, ts with
    | [x], ⟨t, _⟩ =>
      obtain ⟨a, vs, rfl, ha, ra⟩ := t.tuple
      cases hf
      exact call_len_seq pins s σ H _ us Q I r ⟨a, vs, rfl, .inr ha, by rw [← ra.length]; exact q _ H (resV (.int _))⟩
    | _ :: _ :: _, ⟨_, t⟩ => exact t.elim
  · rename_i es
    match xs, ts with
    | [x], ⟨t, _⟩ =>
      split at hf
      · cases hf
      rename_i hn
      obtain ⟨a, kvs, rfl, ha, ra⟩ := t.dict (by simpa using hn)
      cases hf
      exact call_lenD pins s σ H _ us Q I r ⟨a, kvs, rfl, ha, by rw [← ra.length]; exact q _ H (resV (.int _))⟩
    | _ :: _ :: _, ⟨_, t⟩ => exact t.elim
  · rename_i z
    split at hf
    · rename_i hz
      match xs, ts with
      | [x], ⟨t, _⟩ =>
        cases t.str
        cases hf
        exact call_len_str pins s σ H _ us Q I r ⟨z, rfl, szb_ok hz, q _ H (resV (.int _))⟩
      | _ :: _ :: _, ⟨_, t⟩ => exact t.elim
    · cases hf
  · cases hf
theorem tops1 {K : PySem.W.Frag} {H : Hp} {O : AS} {d : D} {xs : List V} (h : Tops K H O [d] xs) : ∃ x, xs = [x] ∧ Top K H O d x := by
  match xs, h with
  | [x], ⟨t, _⟩ => exact ⟨x, rfl, t⟩
  | _ :: _ :: _, ⟨_, t⟩ => exact t.elim
theorem tops2 {K : PySem.W.Frag} {H : Hp} {O : AS} {d e : D} {xs : List V} (h : Tops K H O [d, e] xs) : ∃ x y, xs = [x, y] ∧ Top K H O d x ∧ Top K H O e y := by
  match xs, h with
  | [x], ⟨_, t⟩ => exact t.elim
  | [x, y], ⟨t, t2, _⟩ => exact ⟨x, y, rfl, t, t2⟩
  | _ :: _ :: _ :: _, ⟨_, _, t⟩ => exact t.elim
theorem cd_int : CallR X (.type "int") (rDs X.K intD) := by
  intro pins s σ H xs us Q I r ⟨O, ds, rv, hO, ts, hf, q⟩
  unfold intD at hf
  split at hf
  · obtain ⟨x, rfl, t⟩ := tops1 ts
    cases t.int; cases hf
    exact call_int1 pins s σ H _ us Q I r (.inl ⟨_, rfl, q _ H (resV (.int _))⟩)
  · obtain ⟨x, rfl, t⟩ := tops1 ts
    cases t.bl; cases hf
    exact call_int1 pins s σ H _ us Q I r (.inr ⟨_, rfl, q _ H (resV (.int _))⟩)
  · rename_i z
    obtain ⟨x, rfl, t⟩ := tops1 ts
    split at hf
    · rename_i hz
      cases t.str
      cases e : PySem.intText? z with
      | none => rw [e] at hf; cases hf
      | some n =>
        rw [e] at hf; cases hf
        exact call_int_str pins s σ H _ us Q I r ⟨z, n, rfl, e, of_decide_eq_true hz, q _ H (resV (.int _))⟩
    · cases hf
  · cases hf
theorem cd_abs : CallR X (.builtin "abs") (rDs X.K absD) := by
  intro pins s σ H xs us Q I r ⟨O, ds, rv, hO, ts, hf, q⟩
  unfold absD at hf
  split at hf
  · obtain ⟨x, rfl, t⟩ := tops1 ts
    cases t.int; cases hf
    exact call_abs pins s σ H _ us Q I r ⟨_, rfl, q _ H (resV (.int _))⟩
  · cases hf
theorem maxOf_ok : ∀ {n : Int} {ns : List Int}, maxOf (n :: ns) ∈ n :: ns ∧ ∀ y ∈ n :: ns, y ≤ maxOf (n :: ns)
  | n, [] => ⟨by simp [maxOf], fun y h => by rw [List.mem_singleton.mp h]; exact Int.le_refl _⟩
  | n, m :: ns => by
    obtain ⟨h1, h2⟩ := maxOf_ok (n := m) (ns := ns)
    rw [maxOf]
    split
    · rename_i hc
      refine ⟨List.mem_cons_of_mem _ h1, fun y hy => ?_⟩
      rcases List.mem_cons.mp hy with e | e
      · subst e; omega
      · exact h2 y e
    · rename_i hc
      refine ⟨List.mem_cons_self, fun y hy => ?_⟩
      rcases List.mem_cons.mp hy with e | e
      · subst e; exact Int.le_refl _
      · have := h2 y e; omega
theorem minOf_ok : ∀ {n : Int} {ns : List Int}, minOf (n :: ns) ∈ n :: ns ∧ ∀ y ∈ n :: ns, minOf (n :: ns) ≤ y
  | n, [] => ⟨by simp [minOf], fun y h => by rw [List.mem_singleton.mp h]; exact Int.le_refl _⟩
  | n, m :: ns => by
    obtain ⟨h1, h2⟩ := minOf_ok (n := m) (ns := ns)
    rw [minOf]
    split
    · rename_i hc
      refine ⟨List.mem_cons_of_mem _ h1, fun y hy => ?_⟩
      rcases List.mem_cons.mp hy with e | e
      · subst e; omega
      · exact h2 y e
    · rename_i hc
      refine ⟨List.mem_cons_self, fun y hy => ?_⟩
      rcases List.mem_cons.mp hy with e | e
      · subst e; exact Int.le_refl _
      · have := h2 y e; omega
theorem cd_max (hc : X.calm = true) : CallR X (.builtin "max") (rDs X.K maxD) := by
  intro pins s σ H xs us Q I r ⟨O, ds, rv, hO, ts, hf, q⟩
  unfold maxD at hf
  split at hf
  · obtain ⟨x, y, rfl, t, t2⟩ := tops2 ts
    cases t.int; cases t2.int; cases hf
    exact call_max2 hc pins s σ H _ us Q I r ⟨_, _, rfl, q _ H (resV (.int _))⟩
  · obtain ⟨x, rfl, t⟩ := tops1 ts
    obtain ⟨a, vs, rfl, ha, ra⟩ := t.list
    split at hf
    · rename_i n ns hn
      cases hf
      have ev := ra.ints (intsOf_ok hn)
      subst ev
      refine cr_max hc pins s σ H _ us Q I r ⟨a, n :: ns, rfl, ha, by simp, fun m hm hy => ?_⟩
      obtain ⟨h1, h2⟩ := maxOf_ok (n := n) (ns := ns)
      have e : m = maxOf (n :: ns) := Int.le_antisymm (h2 m hm) (hy _ h1)
      rw [e]; exact q _ H (resV (.int _))
    · cases hf
  · cases hf
theorem cd_min (hc : X.calm = true) : CallR X (.builtin "min") (rDs X.K minD) := by
  intro pins s σ H xs us Q I r ⟨O, ds, rv, hO, ts, hf, q⟩
  unfold minD at hf
  split at hf
  · obtain ⟨x, y, rfl, t, t2⟩ := tops2 ts
    cases t.int; cases t2.int; cases hf
    exact call_min2 hc pins s σ H _ us Q I r ⟨_, _, rfl, q _ H (resV (.int _))⟩
  · obtain ⟨x, rfl, t⟩ := tops1 ts
    obtain ⟨a, vs, rfl, ha, ra⟩ := t.list
    split at hf
    · rename_i n ns hn
      cases hf
      have ev := ra.ints (intsOf_ok hn)
      subst ev
      refine cr_min hc pins s σ H _ us Q I r ⟨a, n :: ns, rfl, ha, by simp, fun m hm hy => ?_⟩
      obtain ⟨h1, h2⟩ := minOf_ok (n := n) (ns := ns)
      have e : m = minOf (n :: ns) := Int.le_antisymm (hy _ h1) (h2 m hm)
      rw [e]; exact q _ H (resV (.int _))
    · cases hf
  · cases hf
theorem cd_sum (hc : X.calm = true) : CallR X (.builtin "sum") (rDs X.K sumD) := by
  intro pins s σ H xs us Q I r ⟨O, ds, rv, hO, ts, hf, q⟩
  unfold sumD at hf
  split at hf
  · rename_i es
    obtain ⟨x, rfl, t⟩ := tops1 ts
    obtain ⟨a, vs, rfl, ha, ra⟩ := t.list
    cases hn : intsOf es with
    | none => rw [hn] at hf; cases hf
    | some ns =>
      rw [hn] at hf; cases hf
      have ev := ra.ints (intsOf_ok hn)
      subst ev
      exact cr_sum hc pins s σ H _ us Q I r ⟨a, ns, rfl, ha, q _ H (resV (.int _))⟩
  · cases hf
theorem cd_all (hc : X.calm = true) : CallR X (.builtin "all") (rDs X.K allD) := by
  intro pins s σ H xs us Q I r ⟨O, ds, rv, hO, ts, hf, q⟩
  unfold allD at hf
  split at hf
  · rename_i es
    obtain ⟨x, rfl, t⟩ := tops1 ts
    obtain ⟨a, vs, rfl, ha, ra⟩ := t.list
    cases hn : boolsOf es with
    | none => rw [hn] at hf; cases hf
    | some ns =>
      rw [hn] at hf; cases hf
      have ev := ra.bools (boolsOf_ok hn)
      subst ev
      exact cr_all hc pins s σ H _ us Q I r ⟨a, ns, rfl, ha, q _ H resBl⟩
  · cases hf
theorem cd_any (hc : X.calm = true) : CallR X (.builtin "any") (rDs X.K anyD) := by
  intro pins s σ H xs us Q I r ⟨O, ds, rv, hO, ts, hf, q⟩
  unfold anyD at hf
  split at hf
  · rename_i es
    obtain ⟨x, rfl, t⟩ := tops1 ts
    obtain ⟨a, vs, rfl, ha, ra⟩ := t.list
    cases hn : boolsOf es with
    | none => rw [hn] at hf; cases hf
    | some ns =>
      rw [hn] at hf; cases hf
      have ev := ra.bools (boolsOf_ok hn)
      subst ev
      exact cr_any hc pins s σ H _ us Q I r ⟨a, ns, rfl, ha, q _ H resBl⟩
  · cases hf
theorem each_of {K : PySem.W.Frag} {H : Hp} {O : AS} : ∀ {ds : List D} {vs : List V} {its : List Value}, Reps K H O ds vs → Vals vs its → PySem.W.EachIs (fun v d => ∃ x, RelV x v ∧ Rep K H O d x) its ds
  | _, _, _, .nil, .nil => .nil
  | _, _, _, .cons a b, .cons c d => .cons ⟨_, c, a⟩ (each_of b d)
theorem each_back {K : PySem.W.Frag} {H : Hp} {O : AS} : ∀ {ds : List D} {its : List Value}, PySem.W.EachIs (fun v d => ∃ x, RelV x v ∧ Rep K H O d x) its ds → ∃ vs, Vals vs its ∧ Reps K H O ds vs
  | _, _, .nil => ⟨[], .nil, .nil⟩
  | _, _, .cons ⟨x, h1, h2⟩ t => by
    obtain ⟨vs, a, b⟩ := each_back t
    exact ⟨x :: vs, .cons h1 a, .cons h2 b⟩
theorem each_reads {pins : List (Addr × Obj)} {s : Shared} {σ : St} {H : Hp} {O : AS} (I : Inv X pins σ H s) : ∀ {ds : List D} {vs : List V} {its : List Value}, Reps X.K H O ds vs → Vals vs its → (∀ d ∈ ds, okE d = true) → PySem.W.EachIs (fun v d => ∃ as, Reads s.heap v (id d) as) its ds
  | _, _, _, .nil, .nil, _ => .nil
  | d :: ds, _, _, .cons a b, .cons c e, h => by
    obtain ⟨_, _, _, p⟩ := okE_ok (h d List.mem_cons_self) (.inl a : Top X.K H O d _)
    exact .cons (Dp.reads I d _ _ p c) (each_reads I b e fun x hx => h x (List.mem_cons_of_mem _ hx))
theorem srt_get {ds : List D} (h : (srtOk ds || oneOk ds) = true) : (∀ d ∈ ds, ∀ e ∈ ds, PySem.W.alike d e = true) ∧ (∀ d ∈ ds, okE d = true) ∧ Sortable1 ds := by
  rw [Bool.or_eq_true] at h
  rcases h with hc | hc
  · unfold srtOk at hc
    simp only [Bool.and_eq_true, Bool.or_eq_true, List.all_eq_true] at hc
    obtain ⟨h1, h2, h3⟩ := hc
    refine ⟨h1, h2, .inl ?_⟩
    rcases h3 with h3 | h3
    · refine .inl fun d hd => ?_
      have := h3 d hd
      cases d <;> first
        | cases this
        | skip
      rename_i l
      cases l with
      | nil => cases this
      | cons x l => exact ⟨x, l, rfl⟩
    · refine .inr fun d hd => ?_
      have := h3 d hd
      cases d <;> first
        | exact (Bool.false_ne_true this).elim
        | exact ⟨(fun e => nomatch e), fun xs e => nomatch e⟩
  · unfold oneOk at hc
    simp only [Bool.and_eq_true, List.all_eq_true, decide_eq_true_eq] at hc
    obtain ⟨h0, h1, h2, h3⟩ := hc
    refine ⟨h1, h2, .inr ⟨h0, fun d hd e => ?_⟩⟩
    have := h3 d hd
    rw [e] at this
    cases this
theorem cd_sorted (hu : X.A.units + 66 < cLine) : CallR X (.builtin "sorted") (rDs X.K sortedD) := by
  intro pins s σ H xs us Q I r ⟨O, ds, rv, hO, ts, hf, q⟩
  unfold sortedD at hf
  split at hf
  · rename_i es
    unfold srtD at hf
    split at hf
    · rename_i hc
      obtain ⟨h1, h2, h3⟩ := srt_get hc
      cases hf
      match xs, ts with
      | [x], ⟨t, _⟩ =>
        obtain ⟨a, vs, rfl, ha, ra⟩ := t.list
        obtain ⟨its, rv, hl, hz⟩ := I.list ha
        rw [Vals.ref1 r]
        have hlen := rv.length
        have hlen2 := ra.length
        refine sorted_data_l (bs := es) (enc := id) hl.isList (each_of ra rv) (each_reads I ra rv h2) (by rw [List.map_id]; exact h1) (by rw [List.map_id]; exact h3) (by omega) (fun b hb => ?_) fun out ho eo => ?_
        · have := h2 b hb
          unfold okE at this
          simp only [Bool.and_eq_true, decide_eq_true_eq] at this
          show X.A.units + 2 + b.depth < cLine
          omega
        · obtain ⟨ws, w1, w2⟩ := each_back eo
          obtain ⟨ep, he'⟩ := PyProof.Rows.sortedAll_at s.heap its out.toArray
          have lw := w1.length
          exact ⟨.ref _, upd H (s.heap.objs.size + 1) (.lst ws), I.laid (t' := s.toks) (fun _ _ => PyProof.Rows.sortedAll_old) (Nat.le_succ _) ⟨by omega, out, ep, w1, he'⟩, rfl, q _ _ (resLst w2 (I.hok.fresh (Nat.le_succ _)))⟩
      | _ :: _ :: _, ⟨_, t⟩ => exact t.elim
    · cases hf
  · rename_i es
    unfold srtD at hf
    split at hf
    · rename_i hc
      obtain ⟨h1, h2, h3⟩ := srt_get hc
      cases hf
      match xs, ts with
      | [x], ⟨t, _⟩ =>
        obtain ⟨a, vs, rfl, ha, ra⟩ := t.tuple
        obtain ⟨its, rv, hl, hz⟩ := I.tuple ha
        rw [Vals.ref1 r]
        have hlen := rv.length
        have hlen2 := ra.length
        refine sorted_data_t (bs := es) (enc := id) hl (each_of ra rv) (each_reads I ra rv h2) (by rw [List.map_id]; exact h1) (by rw [List.map_id]; exact h3) (by omega) (fun b hb => ?_) fun out ho eo => ?_
        · have := h2 b hb
          unfold okE at this
          simp only [Bool.and_eq_true, decide_eq_true_eq] at this
          show X.A.units + 2 + b.depth < cLine
          omega
        · obtain ⟨ws, w1, w2⟩ := each_back eo
          obtain ⟨ep, he'⟩ := PyProof.Rows.sortedAll_at s.heap its out.toArray
          have lw := w1.length
          exact ⟨.ref _, upd H (s.heap.objs.size + 1) (.lst ws), I.laid (t' := s.toks) (fun _ _ => PyProof.Rows.sortedAll_old) (Nat.le_succ _) ⟨by omega, out, ep, w1, he'⟩, rfl, q _ _ (resLst w2 (I.hok.fresh (Nat.le_succ _)))⟩
      | _ :: _ :: _, ⟨_, t⟩ => exact t.elim
    · cases hf
  · cases hf
theorem cd_str : CallR X (.type "str") (rDs X.K strD) := by
  intro pins s σ H xs us Q I rs ⟨O, ds, rv, hO, td, hf, q⟩
  unfold strD at hf
  split at hf
  · split at hf
    · rename_i hc
      cases hf
      obtain ⟨x, rfl, t⟩ := tops1 td
      cases t.int
      exact call_str_int pins s σ H _ us Q I rs ⟨_, rfl, of_decide_eq_true hc, q _ _ (resV (.str _ (strOk_of _)))⟩
    · cases hf
  · cases hf
theorem cd_divmod : CallR X (.builtin "divmod") (rDs X.K divmodD) := by
  intro pins s σ H xs us Q I r ⟨O, ds, rv, hO, ts, hf, q⟩
  unfold divmodD at hf
  split at hf
  · obtain ⟨x, y, rfl, t, t2⟩ := tops2 ts
    split at hf
    · rename_i hc
      simp only [Bool.and_eq_true, decide_eq_true_eq] at hc
      cases t.int; cases t2.int; cases hf
      exact call_divmod pins s σ H _ us Q I r ⟨_, _, rfl, hc, fun p np => q _ _ (resTup hO (.cons (.int _) (.cons (.int _) .nil)) np)⟩
    · cases hf
  · cases hf
theorem cd_tuple : CallR X (.type "tuple") (rDs X.K tupleD) := by
  intro pins s σ H xs us Q I r ⟨O, ds, rv, hO, ts, hf, q⟩
  unfold tupleD at hf
  split at hf
  · obtain ⟨x, rfl, t⟩ := tops1 ts
    obtain ⟨a, vs, rfl, ha, ra⟩ := t.list
    cases hf
    exact call_tuple_of pins s σ H _ us Q I r ⟨a, vs, rfl, .inl ⟨ha, fun l nl => q _ _ (resTup hO ra nl)⟩⟩
  · obtain ⟨x, rfl, t⟩ := tops1 ts
    obtain ⟨a, vs, rfl, ha, ra⟩ := t.tuple
    cases hf
    refine call_tuple_of pins s σ H _ us Q I r ⟨a, vs, rfl, .inr ⟨ha, q _ _ (resV ?_)⟩⟩
    rcases t with t | ⟨_, _, t⟩
    · exact t
    · exact t.elim
  · cases hf
theorem keys_reps {K : PySem.W.Frag} {H : Hp} {O : AS} : ∀ {ds : List (D × D)} {kvs : List (L2.Key × V)}, RepK K H O ds kvs → Reps K H O (ds.map (·.1)) (kvs.map fun kv => kV kv.1)
  | _, _, .nil => .nil
  | _, _, .cons (k := k) hk _ t => by
    refine .cons ?_ (keys_reps t)
    cases k with
    | inl i => exact .int i
    | inr s => exact .str s hk
theorem cd_list (hcalm : X.calm = true) : CallR X (.type "list") (rDs X.K listD) := by
  intro pins s σ H xs us Q I r ⟨O, ds, rv, hO, ts, hf, q⟩
  unfold listD at hf
  split at hf
  · obtain ⟨x, rfl, t⟩ := tops1 ts
    obtain ⟨a, vs, rfl, ha, ra⟩ := t.list
    cases hf
    exact call_list_of pins s σ H _ us Q I r ⟨a, vs, rfl, .inl ha, fun l nl => q _ _ (resLst ra nl)⟩
  · obtain ⟨x, rfl, t⟩ := tops1 ts
    obtain ⟨a, vs, rfl, ha, ra⟩ := t.tuple
    cases hf
    exact call_list_of pins s σ H _ us Q I r ⟨a, vs, rfl, .inr ha, fun l nl => q _ _ (resLst ra nl)⟩
  · obtain ⟨x, rfl, t⟩ := tops1 ts
    split at hf
    · cases hf
    rename_i hn
    obtain ⟨a, kvs, rfl, ha, ra⟩ := t.dict (by simpa using hn)
    cases hf
    exact call_listD hcalm pins s σ H _ us Q I r ⟨a, kvs, rfl, .inl ha, fun l nl => q _ _ (resLst (keys_reps ra) nl)⟩
  · cases hf
end
end Z
namespace Z
open PySem PySem.Spec L2
open PyProof.Rows hiding St

/-! ## evaluator functions of expressions -/
def eC (d : D) : ME := fun ρ => some (.v d, ρ)
/-- a name whose value is kept by somebody: its list is let go -/
def eVar (i : Nat) : ME := fun ρ => match ρ[i]? with
  | some (some (.v d)) => some (.v d, ρ)
  | some (some (.o d)) => some (.v d, ρ.set i (some (.v d)))
  | _ => none
def oSl (i : Nat) : MO := fun ρ => (slot ρ i).bind fun _ => some (.sl i, ρ)
def oTv (f : ME) : MO := fun ρ => (f ρ).bind fun r => some (.tv r.1.d, r.2)
def eOp1 (g : D → Option RV) (fa : MO) : ME := fun ρ => (fa ρ).bind fun r => (r.1.get r.2).bind fun x => (g x).bind fun z => some (z, r.2)
def eOp2 (g : D → D → Option RV) (fa fb : MO) : ME := fun ρ => (fa ρ).bind fun r => (fb r.2).bind fun s => (r.1.get s.2).bind fun x => (s.1.get s.2).bind fun y => (g x y).bind fun z => some (z, s.2)
def osNil : MOs := fun ρ => some ([], ρ)
def osCons (f : MO) (g : MOs) : MOs := fun ρ => (f ρ).bind fun r => (g r.2).bind fun s => some (r.1 :: s.1, s.2)
def eB (g : List D → Option RV) (fs : MOs) : ME := fun ρ => (fs ρ).bind fun r => (getAll r.2 r.1).bind fun xs => (g xs).bind fun z => some (z, r.2)
def tvs : List Op → Option (List D)
  | [] => some []
  | .tv d :: r => (tvs r).bind fun ds => some (d :: ds)
  | .sl _ :: _ => none
def eTup (fs : MOs) : ME := fun ρ => (fs ρ).bind fun r => (tvs r.1).bind fun ds => if szb ds.length then some (.v (.tuple ds), r.2) else none
def eLst (fs : MOs) : ME := fun ρ => (fs ρ).bind fun r => (tvs r.1).bind fun ds => if szb ds.length then some (.o (.list ds), r.2) else none
def truD : D → Option Bool
  | .none => some false
  | .bool b => some b
  | .int i => some (i != 0)
  | .str s => if szb s.length then some ((s.length : Int) != 0) else none
  | .list ds => some (!ds.isEmpty)
  | .tuple ds => some (!ds.isEmpty)
  | .dict ds => if isFn ds then none else some (!ds.isEmpty)
/-- a test by a value's truth -/
def bTru (fo : MO) : MB := fun ρ => (fo ρ).bind fun r => (r.1.get r.2).bind fun x => (truD x).bind fun b => some (b, r.2)
def asB : RV → Option Bool
  | .v (.bool b) => some b
  | _ => none
/-- a test by a comparison -/
def bOp2 (g : D → D → Option RV) (fa fb : MO) : MB := fun ρ => (eOp2 g fa fb ρ).bind fun r => (asB r.1).bind fun b => some (b, r.2)
def bNot (f : MB) : MB := fun ρ => (f ρ).bind fun r => some (!r.1, r.2)
def bAnd (f g : MB) : MB := fun ρ => (f ρ).bind fun r => if r.1 then g r.2 else some (false, r.2)
def bOr (f g : MB) : MB := fun ρ => (f ρ).bind fun r => if r.1 then some (true, r.2) else g r.2
def eAnd (f g : ME) : ME := fun ρ => (f ρ).bind fun r => (asB r.1).bind fun b => if b then g r.2 else some (.v (.bool false), r.2)
def eOr (f g : ME) : ME := fun ρ => (f ρ).bind fun r => (asB r.1).bind fun b => if b then some (.v (.bool true), r.2) else g r.2
def eNot (f : ME) : ME := fun ρ => (f ρ).bind fun r => (asB r.1).bind fun b => some (.v (.bool (!b)), r.2)
def eIf (t : MB) (f g : ME) : ME := fun ρ => (t ρ).bind fun r => if r.1 then f r.2 else g r.2
def eChain (g g' : D → D → Option RV) (fa fb fc : MO) : ME := fun ρ => (fa ρ).bind fun r => (fb r.2).bind fun s => (r.1.get s.2).bind fun x => (s.1.get s.2).bind fun y => (g x y).bind fun z => (asB z).bind fun b =>
  if b then (fc s.2).bind fun t => (s.1.get t.2).bind fun y' => (t.1.get t.2).bind fun w => (g' y' w).bind fun u => some (u, t.2) else some (.v (.bool false), s.2)
def bChain (g g' : D → D → Option RV) (fa fb fc : MO) : MB := fun ρ => (eChain g g' fa fb fc ρ).bind fun r => (asB r.1).bind fun b => some (b, r.2)
def cut (xs : List D) (lo hi : Option Int) : List D := (xs.drop (HT.sIx xs.length 0 lo)).take (HT.sIx xs.length xs.length hi - HT.sIx xs.length 0 lo)
def slD : D → Option Int → Option Int → Option RV
  | .list xs, lo, hi => some (.o (.list (cut xs lo hi)))
  | .tuple xs, lo, hi => some (.v (.tuple (cut xs lo hi)))
  | .str z, lo, hi => if szb z.length then some (.v (.str (cutS z lo hi))) else none
  | _, _, _ => none
abbrev MI := Rho → Option (Option Int × Rho)
def iNo : MI := fun ρ => some (none, ρ)
def asI : RV → Option Int
  | .v (.int i) => some i
  | _ => none
def iSome (f : ME) : MI := fun ρ => (f ρ).bind fun r => (asI r.1).bind fun i => some (some i, r.2)
def eSl (fx : MO) (fl fh : MI) : ME := fun ρ => (fx ρ).bind fun r => (fl r.2).bind fun l => (fh l.2).bind fun h => (r.1.get h.2).bind fun x => (slD x l.1 h.1).bind fun z => some (z, h.2)

theorem bindS {α β : Type} {x : Option α} {f : α → Option β} {b : β} (h : x.bind f = some b) : ∃ a, x = some a ∧ f a = some b := Option.bind_eq_some_iff.mp h

section
variable {X : Cx} {c : Cn} {E : AS} {ρ ρ1 ρ2 ρ' : Rho} {σ : L2.St} {H H1 H2 H' : Hp} {d : D} {z : V} {rv : RV}
theorem oe_there (r : R c E ρ σ H) : ∀ b, OE ρ σ E b → ∃ o, H b = some o := fun b h => h.elim (r.eal b) fun q => r.own_there q
theorem ResB.post (s : Stp ρ σ H ρ2 σ H2) (r : R c E ρ2 σ H2) (h : ResB c.K H2 (OE ρ2 σ E) rv H' z) : PostE c E ρ σ H ρ2 H' rv z := by
  obtain ⟨g, h⟩ := h
  cases rv with
  | v d => exact ⟨s.trans g.stp, r.grow g, h⟩
  | o d =>
    obtain ⟨a, rfl, n, o⟩ := h
    refine ⟨a, rfl, s.trans g.stp, ?_, ?_, by rw [OE_add]; exact o⟩
    · cases q : H a with
      | none => rfl
      | some u =>
        obtain ⟨w, hw⟩ := s.all a u q
        rw [n] at hw; cases hw
    · obtain ⟨u, hu⟩ := o.there
      exact r.add n g hu
theorem PostE.v (h : PostE c E ρ σ H ρ' H' (.v d) z) : PostV c E ρ σ H ρ' H' d z := h
theorem asB_ok {b : Bool} (h : asB rv = some b) : rv = .v (.bool b) := by
  unfold asB at h
  split at h <;> first | (cases h; rfl) | cases h
theorem asI_ok {i : Int} (h : asI rv = some i) : rv = .v (.int i) := by
  unfold asI at h
  split at h <;> first | (cases h; rfl) | cases h
theorem tvs_ok (r : R c E ρ' σ H') : ∀ {ps : List Op} {ds : List D} {zs : List V}, tvs ps = some ds → OpsAt c E ρ' σ H' ps zs → Reps c.K H' (OE ρ' σ E) ds zs
  | [], ds, [], h, _ => by cases h; exact .nil
  | [], _, _ :: _, _, h => h.elim
  | .tv d :: ps, ds, [], h, o => o.elim
  | .tv d :: ps, ds, z :: zs, h, o => by
    obtain ⟨es, e1, e2⟩ := bindS h
    cases e2
    exact .cons o.1 (tvs_ok r e1 o.2)
  | .sl _ :: _, _, _, h, _ => by cases h
end

section
variable {X : Cx} {a b e : Expr} {es : List Expr} {fa fb fc : MO} {fs : MOs} {f g h : ME} {bf bg : MB} {pos : Pos}
theorem zpo_slot {i : Nat} (h : PE X e (tVar i)) : PE X e (tOpd X (oSl i)) := by
  refine ⟨fun pins s σ H Q I hq => h.run pins s σ H Q I ?_⟩
  obtain ⟨c, E, ρ, p, ρ', hK, hR, hf, q⟩ := hq
  obtain ⟨d, h1, h2⟩ := bindS hf
  cases h2
  have hz : ∃ z, σ[i]? = some (some z) := by
    unfold slot at h1
    split at h1
    · rename_i rv hr
      cases rv with
      | v d => obtain ⟨v, h3, _⟩ := hR.val i d hr; exact ⟨v, h3⟩
      | o d => obtain ⟨v, h3, _⟩ := hR.own i d hr; exact ⟨_, h3⟩
    · cases h1
  obtain ⟨z, hz⟩ := hz
  exact ⟨z, hz, q z H ⟨Stp.rfl, hR, hz⟩⟩
theorem zpo_tv (h : PE X e (tE X f)) : PE X e (tOpd X (oTv f)) := by
  refine ⟨fun pins s σ H Q I hq => h.run pins s σ H Q I ?_⟩
  obtain ⟨c, E, ρ, p, ρ', hK, hR, hf, q⟩ := hq
  obtain ⟨⟨rv, ρ1⟩, h1, h2⟩ := bindS hf
  cases h2
  refine ⟨c, E, ρ, rv, ρ1, hK, hR, h1, fun z H' P => q z H' ?_⟩
  obtain ⟨s1, r1, p1⟩ := P.pv hR
  exact ⟨s1, r1, p1⟩
theorem zpe_var {i : Nat} (h : PE X e (tVar i)) : PE X e (tE X (eVar i)) := by
  refine ⟨fun pins s σ H Q I hq => h.run pins s σ H Q I ?_⟩
  obtain ⟨c, E, ρ, p, ρ', hK, hR, hf, q⟩ := hq
  unfold eVar at hf
  split at hf
  · rename_i d hr
    cases hf
    obtain ⟨v, h1, h2⟩ := hR.val i d hr
    exact ⟨v, h1, q v H ⟨Stp.rfl, hR, h2⟩⟩
  · rename_i d hr
    cases hf
    obtain ⟨h1, h2, v, h3, h4⟩ := hR.freeze hr
    exact ⟨v, h3, q v H ⟨h2, h1, h4⟩⟩
  · cases hf
theorem zpe_const {v : V} {d : D} (h : PE X e (tC v)) (r : ∀ H O, Rep X.K H O d v) : PE X e (tE X (eC d)) := by
  refine ⟨fun pins s σ H Q I hq => h.run pins s σ H Q I ?_⟩
  obtain ⟨c, E, ρ, p, ρ', hK, hR, hf, q⟩ := hq
  cases hf
  exact q v H ⟨Stp.rfl, hR, by rw [hK]; exact r _ _⟩
theorem zpa_nil : PA X [] (tOps X osNil) := by
  refine ⟨fun pos pins s σ H Q I hq => pa_nil.run pos pins s σ H Q I ?_⟩
  obtain ⟨c, E, ρ, p, ρ', hK, hR, hf, q⟩ := hq
  cases hf
  exact q [] H ⟨Stp.rfl, hR, True.intro⟩
theorem zpa_cons (ha : PE X e (tOpd X fa)) (hr : PA X es (tOps X fs)) (hs : starEach (e :: es) X.env = (false, eval e X.env) :: starEach es X.env) : PA X (e :: es) (tOps X (osCons fa fs)) := by
  refine ⟨fun pos pins s σ H Q I hq => (pa_cons ha hr hs).run pos pins s σ H Q I ?_⟩
  obtain ⟨c, E, ρ, p, ρ', hK, hR, hf, q⟩ := hq
  obtain ⟨⟨p1, ρ1⟩, h1, hf⟩ := bindS hf
  obtain ⟨⟨p2, ρ2⟩, h2, hf⟩ := bindS hf
  cases hf
  refine ⟨c, E, ρ, p1, ρ1, hK, hR, h1, fun x H1 P1 => ⟨c, E, ρ1, p2, ρ2, hK, P1.2.1, h2, fun xs H2 P2 => q _ H2 ⟨P1.1.trans P2.1, P2.2.1, ?_, P2.2.2⟩⟩⟩
  obtain ⟨_, _, P3⟩ := P1
  cases p1 with
  | tv d => exact Rep.mono P2.1.keeps P3
  | sl i => exact P3
theorem op1_read {g : D → Option RV} {σ : L2.St} {H : Hp} {Q : VK} (hq : tE X (eOp1 g fa) σ H Q) : tUn (rD1 X.K g) (tOpd X fa) σ H Q := by
  obtain ⟨c, E, ρ, rv, ρ', hK, hR, hf, q⟩ := hq
  obtain ⟨⟨p1, ρ1⟩, h1, hf⟩ := bindS hf
  obtain ⟨x, h2, hf⟩ := bindS hf
  obtain ⟨y, h3, hf⟩ := bindS hf
  cases hf
  refine ⟨c, E, ρ, p1, ρ1, hK, hR, h1, fun z H1 P1 => ⟨OE ρ1 σ E, x, rv, oe_there P1.2.1, ?_, h3, fun w H' rb => q w H' (ResB.post P1.1 P1.2.1 (by rw [hK]; exact rb))⟩⟩
  rw [← hK]; exact P1.top Stp.rfl P1.2.1 h2
theorem op2_read {g : D → D → Option RV} {σ : L2.St} {H : Hp} {Q : VK} (hq : tE X (eOp2 g fa fb) σ H Q) : tOp (rD2 X.K g) (tOpd X fa) (tOpd X fb) σ H Q := by
  obtain ⟨c, E, ρ, rv, ρ', hK, hR, hf, q⟩ := hq
  obtain ⟨⟨p1, ρ1⟩, h1, hf⟩ := bindS hf
  obtain ⟨⟨p2, ρ2⟩, h2, hf⟩ := bindS hf
  obtain ⟨x, h3, hf⟩ := bindS hf
  obtain ⟨y, h4, hf⟩ := bindS hf
  obtain ⟨w, h5, hf⟩ := bindS hf
  cases hf
  refine ⟨c, E, ρ, p1, ρ1, hK, hR, h1, fun z H1 P1 => ⟨c, E, ρ1, p2, ρ2, hK, P1.2.1, h2, fun z2 H2 P2 => ⟨OE ρ2 σ E, x, y, rv, oe_there P2.2.1, ?_, ?_, h5, fun w H' rb => q w H' (ResB.post (P1.1.trans P2.1) P2.2.1 (by rw [hK]; exact rb))⟩⟩⟩
  · rw [← hK]; exact P1.top P2.1 P2.2.1 h3
  · rw [← hK]; exact P2.top Stp.rfl P2.2.1 h4
theorem zpe_un {op : UnaryOp} {g : D → Option RV} (ho : UnR X (unaryOp op) (rD1 X.K g)) (ha : PE X a (tOpd X fa)) : PE X (.UnaryOp op a pos) (tE X (eOp1 g fa)) :=
  ⟨fun pins s σ H Q I hq => (pe_un ho ha).run pins s σ H Q I (op1_read hq)⟩
theorem zpe_bin {op : Operator} {g : D → D → Option RV} (ho : OpR X (binaryOp op) (rD2 X.K g)) (ha : PE X a (tOpd X fa)) (hb : PE X b (tOpd X fb)) : PE X (.BinOp a op b pos) (tE X (eOp2 g fa fb)) :=
  ⟨fun pins s σ H Q I hq => (pe_op ho ha hb).run pins s σ H Q I (op2_read hq)⟩
theorem zpe_cmp {op : CmpOp} {g : D → D → Option RV} (ho : OpR X (compareOp op) (rD2 X.K g)) (ha : PE X a (tOpd X fa)) (hb : PE X b (tOpd X fb)) (hm : behindInMarks op b = false) : PE X (.Compare a [op] [b] pos) (tE X (eOp2 g fa fb)) :=
  ⟨fun pins s σ H Q I hq => (pe_cmpR ho ha hb hm).run pins s σ H Q I (op2_read hq)⟩
theorem zpe_ix (hu : X.A.units + 66 < cLine) (ha : PE X a (tOpd X fa)) (hb : PE X b (tOpd X fb)) (hs : PlainIx b) : PE X (.Subscript a b pos) (tE X (eOp2 ixD fa fb)) :=
  ⟨fun pins s σ H Q I hq => (pe_ix (ixd hu) ha hb hs).run pins s σ H Q I (op2_read hq)⟩
theorem bop2_read {g : D → D → Option RV} {σ : L2.St} {H : Hp} {Q : Bool → Hp → Prop} (hq : tT X (bOp2 g fa fb) σ H Q) : tTest (tOp (rD2 X.K g) (tOpd X fa) (tOpd X fb)) σ H Q := by
  obtain ⟨c, E, ρ, k, ρ', hK, hR, hf, q⟩ := hq
  obtain ⟨⟨rv, ρ1⟩, h1, hf⟩ := bindS hf
  obtain ⟨k', h2, hf⟩ := bindS hf
  cases hf
  refine op2_read ⟨c, E, ρ, rv, ρ1, hK, hR, h1, fun z H' P => ?_⟩
  have e : rv = .v (.bool k) := asB_ok h2
  subst e
  obtain ⟨s1, r1, p1⟩ := P.v
  cases p1
  exact ⟨k, rfl, q H' ⟨s1, r1⟩⟩
theorem zpt_cmp {op : CmpOp} {g : D → D → Option RV} (ho : OpR X (compareOp op) (rD2 X.K g)) (ha : PE X a (tOpd X fa)) (hb : PE X b (tOpd X fb)) (hm : behindInMarks op b = false) : PT X (.Compare a [op] [b] pos) (tT X (bOp2 g fa fb)) :=
  ⟨fun pins s σ H Q I hq => (pt_cmpR ho ha hb hm).run pins s σ H Q I (bop2_read hq)⟩
theorem tru_top {K : PySem.W.Frag} {H : Hp} {O : AS} {d : D} {x : V} {k : Bool} (t : Top K H O d x) (h : truD d = some k) : TruV K x H k := by
  unfold truD at h
  have emp : ∀ {α β : Type} {xs : List α} {ys : List β}, xs.length = ys.length → (!xs.isEmpty) = !ys.isEmpty := fun {α β xs ys} h => by
    cases xs <;> cases ys <;> simp_all
  split at h
  · cases t.non; cases h; rfl
  · cases t.bl; cases h; rfl
  · cases t.int; cases h; rfl
  · split at h
    · rename_i hz
      cases t.str; cases h; exact ⟨szb_ok hz, rfl⟩
    · cases h
  · obtain ⟨a, vs, rfl, ha, ra⟩ := t.list
    cases h; exact .inl ⟨vs, ha, emp ra.length⟩
  · obtain ⟨a, vs, rfl, ha, ra⟩ := t.tuple
    cases h; exact .inr (.inl ⟨vs, ha, emp ra.length⟩)
  · split at h
    · cases h
    rename_i hn
    obtain ⟨a, vs, rfl, ha, ra⟩ := t.dict (by simpa using hn)
    cases h; exact .inr (.inr ⟨vs, ha, emp ra.length⟩)
theorem zpt_tru (ha : PE X a (tOpd X fa)) (he : ∀ whole, isTrue a X.env whole = (do let v ← whole; standAt a.pos; holding [v] (truthy v))) : PT X a (tT X (bTru fa)) := by
  refine ⟨fun pins s σ H Q I hq => (pt_truth ha he).run pins s σ H Q I ?_⟩
  obtain ⟨c, E, ρ, k, ρ', hK, hR, hf, q⟩ := hq
  obtain ⟨⟨p1, ρ1⟩, h1, hf⟩ := bindS hf
  obtain ⟨x, h2, hf⟩ := bindS hf
  obtain ⟨k', h3, hf⟩ := bindS hf
  cases hf
  refine ⟨c, E, ρ, p1, ρ1, hK, hR, h1, fun z H1 P1 => ⟨k, ?_, q H1 ⟨P1.1, P1.2.1⟩⟩⟩
  have t := P1.top Stp.rfl P1.2.1 h2
  rw [hK] at t
  exact tru_top t h3
theorem zpt_not (ha : PT X a (tT X bf)) : PT X (.UnaryOp .Not a pos) (tT X (bNot bf)) := by
  refine ⟨fun pins s σ H Q I hq => (pt_not ha).run pins s σ H Q I ?_⟩
  obtain ⟨c, E, ρ, k, ρ', hK, hR, hf, q⟩ := hq
  obtain ⟨⟨k1, ρ1⟩, h1, hf⟩ := bindS hf
  cases hf
  exact ⟨c, E, ρ, k1, ρ1, hK, hR, h1, fun H1 P1 => q H1 P1⟩
theorem zpw_and (ha : PT X a (tT X bf)) (hb : PW X (.BoolOp .And (b :: es) pos) (tT X bg)) : PW X (.BoolOp .And (a :: b :: es) pos) (tT X (bAnd bf bg)) := by
  refine ⟨fun whole pins s σ H Q I hq => (pw_and ha hb).run whole pins s σ H Q I ?_⟩
  obtain ⟨c, E, ρ, k, ρ', hK, hR, hf, q⟩ := hq
  obtain ⟨⟨k1, ρ1⟩, h1, hf⟩ := bindS hf
  refine ⟨c, E, ρ, k1, ρ1, hK, hR, h1, fun H1 P1 => ?_⟩
  cases k1 with
  | true => exact iteT ⟨c, E, ρ1, k, ρ', hK, P1.2, hf, fun H2 P2 => q H2 ⟨P1.1.trans P2.1, P2.2⟩⟩
  | false =>
    cases hf
    exact iteF (q H1 P1)
theorem zpw_or (ha : PT X a (tT X bf)) (hb : PW X (.BoolOp .Or (b :: es) pos) (tT X bg)) : PW X (.BoolOp .Or (a :: b :: es) pos) (tT X (bOr bf bg)) := by
  refine ⟨fun whole pins s σ H Q I hq => (pw_or ha hb).run whole pins s σ H Q I ?_⟩
  obtain ⟨c, E, ρ, k, ρ', hK, hR, hf, q⟩ := hq
  obtain ⟨⟨k1, ρ1⟩, h1, hf⟩ := bindS hf
  refine ⟨c, E, ρ, k1, ρ1, hK, hR, h1, fun H1 P1 => ?_⟩
  cases k1 with
  | false => exact iteF ⟨c, E, ρ1, k, ρ', hK, P1.2, hf, fun H2 P2 => q H2 ⟨P1.1.trans P2.1, P2.2⟩⟩
  | true =>
    cases hf
    exact iteT (q H1 P1)
theorem bl_read {k : Bool} {ρ ρ1 : Rho} {E : AS} {c : Cn} {σ : L2.St} {H H' : Hp} {z : V} {rv : RV} (h : asB rv = some k) (P : PostE c E ρ σ H ρ1 H' rv z) : z = .bl k ∧ Stp ρ σ H ρ1 σ H' ∧ R c E ρ1 σ H' := by
  have e := asB_ok h
  subst e
  obtain ⟨s1, r1, p1⟩ := P.v
  cases p1
  exact ⟨rfl, s1, r1⟩
theorem PostE.from {ρ ρ1 ρ2 : Rho} {E : AS} {c : Cn} {σ : L2.St} {H H1 H2 : Hp} {z : V} {rv : RV} (s : Stp ρ σ H ρ1 σ H1) (h : PostE c E ρ1 σ H1 ρ2 H2 rv z) : PostE c E ρ σ H ρ2 H2 rv z := by
  cases rv with
  | v d => exact ⟨s.trans h.1, h.2⟩
  | o d =>
    obtain ⟨a, rfl, s2, n, r⟩ := h
    refine ⟨a, rfl, s.trans s2, ?_, r⟩
    cases q : H a with
    | none => rfl
    | some u =>
      obtain ⟨w, hw⟩ := s.all a u q
      rw [n] at hw; cases hw
theorem zpe_and (ha : PE X a (tE X f)) (hb : PE X (.BoolOp .And (b :: es) pos) (tE X g)) : PE X (.BoolOp .And (a :: b :: es) pos) (tE X (eAnd f g)) := by
  refine ⟨fun pins s σ H Q I hq => (pe_and ha hb).run pins s σ H Q I ?_⟩
  obtain ⟨c, E, ρ, rv, ρ', hK, hR, hf, q⟩ := hq
  obtain ⟨⟨r1, ρ1⟩, h1, hf⟩ := bindS hf
  obtain ⟨k, h2, hf⟩ := bindS hf
  refine ⟨c, E, ρ, r1, ρ1, hK, hR, h1, fun z H1 P1 => ?_⟩
  obtain ⟨rfl, s1, R1⟩ := bl_read h2 P1
  refine ⟨k, rfl, ?_⟩
  cases k with
  | true => exact iteT ⟨c, E, ρ1, rv, ρ', hK, R1, hf, fun z2 H2 P2 => q z2 H2 (P2.from s1)⟩
  | false =>
    cases hf
    exact iteF (q _ H1 ⟨s1, R1, .bl false⟩)
theorem zpe_or (ha : PE X a (tE X f)) (hb : PE X (.BoolOp .Or (b :: es) pos) (tE X g)) : PE X (.BoolOp .Or (a :: b :: es) pos) (tE X (eOr f g)) := by
  refine ⟨fun pins s σ H Q I hq => (pe_or ha hb).run pins s σ H Q I ?_⟩
  obtain ⟨c, E, ρ, rv, ρ', hK, hR, hf, q⟩ := hq
  obtain ⟨⟨r1, ρ1⟩, h1, hf⟩ := bindS hf
  obtain ⟨k, h2, hf⟩ := bindS hf
  refine ⟨c, E, ρ, r1, ρ1, hK, hR, h1, fun z H1 P1 => ?_⟩
  obtain ⟨rfl, s1, R1⟩ := bl_read h2 P1
  refine ⟨k, rfl, ?_⟩
  cases k with
  | false => exact iteF ⟨c, E, ρ1, rv, ρ', hK, R1, hf, fun z2 H2 P2 => q z2 H2 (P2.from s1)⟩
  | true =>
    cases hf
    exact iteT (q _ H1 ⟨s1, R1, .bl true⟩)
theorem zpe_not (ha : PE X a (tE X f)) : PE X (.UnaryOp .Not a pos) (tE X (eNot f)) := by
  refine ⟨fun pins s σ H Q I hq => (pe_not ha).run pins s σ H Q I ?_⟩
  obtain ⟨c, E, ρ, rv, ρ', hK, hR, hf, q⟩ := hq
  obtain ⟨⟨r1, ρ1⟩, h1, hf⟩ := bindS hf
  obtain ⟨k, h2, hf⟩ := bindS hf
  refine ⟨c, E, ρ, r1, ρ1, hK, hR, h1, fun z H1 P1 => ?_⟩
  obtain ⟨rfl, s1, R1⟩ := bl_read h2 P1
  cases hf
  exact ⟨k, rfl, q _ H1 ⟨s1, R1, .bl _⟩⟩
theorem zpe_if {t : Expr} (ht : PT X t (tT X bf)) (ha : PE X a (tE X f)) (hb : PE X b (tE X g)) : PE X (.IfExp t a b pos) (tE X (eIf bf f g)) := by
  refine ⟨fun pins s σ H Q I hq => (pe_ifExp ht ha hb).run pins s σ H Q I ?_⟩
  obtain ⟨c, E, ρ, rv, ρ', hK, hR, hf, q⟩ := hq
  obtain ⟨⟨k, ρ1⟩, h1, hf⟩ := bindS hf
  refine ⟨c, E, ρ, k, ρ1, hK, hR, h1, fun H1 P1 => ?_⟩
  cases k with
  | true => exact iteT ⟨c, E, ρ1, rv, ρ', hK, P1.2, hf, fun z2 H2 P2 => q z2 H2 (P2.from P1.1)⟩
  | false => exact iteF ⟨c, E, ρ1, rv, ρ', hK, P1.2, hf, fun z2 H2 P2 => q z2 H2 (P2.from P1.1)⟩
theorem chain_read {c' : Expr} {g g' : D → D → Option RV} {σ : L2.St} {H : Hp} {Q : VK} (hq : tE X (eChain g g' fa fb fc) σ H Q) : tChain (rD2 X.K g) (rD2 X.K g') (tOpd X fa) (tOpd X fb) (tOpd X fc) σ H Q := by
  obtain ⟨c, E, ρ, rv, ρ', hK, hR, hf, q⟩ := hq
  obtain ⟨⟨p1, ρ1⟩, h1, hf⟩ := bindS hf
  obtain ⟨⟨p2, ρ2⟩, h2, hf⟩ := bindS hf
  obtain ⟨x, h3, hf⟩ := bindS hf
  obtain ⟨y, h4, hf⟩ := bindS hf
  obtain ⟨w, h5, hf⟩ := bindS hf
  obtain ⟨k, h6, hk⟩ := bindS hf
  refine ⟨c, E, ρ, p1, ρ1, hK, hR, h1, fun z H1 P1 => ⟨c, E, ρ1, p2, ρ2, hK, P1.2.1, h2, fun z2 H2 P2 => ⟨OE ρ2 σ E, x, y, w, oe_there P2.2.1, ?_, ?_, h5, fun z3 H3 rb => ?_⟩⟩⟩
  · rw [← hK]; exact P1.top P2.1 P2.2.1 h3
  · rw [← hK]; exact P2.top Stp.rfl P2.2.1 h4
  · have P3 := ResB.post (P1.1.trans P2.1) P2.2.1 (by rw [hK]; exact rb)
    obtain ⟨rfl, s3, R3⟩ := bl_read h6 P3
    have e := asB_ok h6
    subst e
    have g3 : Stp ρ2 σ H2 ρ2 σ H3 := (show Grow H2 H3 from rb.1).stp
    refine ⟨k, rfl, ?_⟩
    cases k with
    | false =>
      rw [if_neg Bool.false_ne_true] at hk
      cases hk
      exact iteF (q _ H3 ⟨s3, R3, .bl false⟩)
    | true =>
      rw [if_pos rfl] at hk
      obtain ⟨⟨p4, ρ4⟩, h7, hk⟩ := bindS hk
      obtain ⟨y', h8, hk⟩ := bindS hk
      obtain ⟨w', h9, hk⟩ := bindS hk
      obtain ⟨u, h10, hk⟩ := bindS hk
      cases hk
      refine iteT ⟨c, E, ρ2, p4, ρ4, hK, R3, h7, fun z4 H4 P4 => ⟨OE ρ4 σ E, y', w', rv, oe_there P4.2.1, ?_, ?_, h10, fun z5 H5 rb5 => q z5 H5 (ResB.post (s3.trans P4.1) P4.2.1 (by rw [hK]; exact rb5))⟩⟩
      · rw [← hK]; exact P2.top (g3.trans P4.1) P4.2.1 h8
      · rw [← hK]; exact P4.top Stp.rfl P4.2.1 h9
theorem zpe_chain {c' : Expr} {op op' : CmpOp} {g g' : D → D → Option RV} (ho : OpR X (compareOp op) (rD2 X.K g)) (ho' : OpR X (compareOp op') (rD2 X.K g')) (ha : PE X a (tOpd X fa)) (hb : PE X b (tOpd X fb)) (hc : PE X c' (tOpd X fc))
    (hm : lastMarks [op, op'] [b, c'] = false) : PE X (.Compare a [op, op'] [b, c'] pos) (tE X (eChain g g' fa fb fc)) :=
  ⟨fun pins s σ H Q I hq => (pe_chain ho ho' ha hb hc hm).run pins s σ H Q I (chain_read (c' := c') hq)⟩
theorem zpt_chain {c' : Expr} {op op' : CmpOp} {g g' : D → D → Option RV} (ho : OpR X (compareOp op) (rD2 X.K g)) (ho' : OpR X (compareOp op') (rD2 X.K g')) (ha : PE X a (tOpd X fa)) (hb : PE X b (tOpd X fb)) (hc : PE X c' (tOpd X fc))
    (hm : lastMarks [op, op'] [b, c'] = false) : PT X (.Compare a [op, op'] [b, c'] pos) (tT X (bChain g g' fa fb fc)) := by
  refine ⟨fun pins s σ H Q I hq => (pt_chain ho ho' ha hb hc hm).run pins s σ H Q I ?_⟩
  obtain ⟨c, E, ρ, k, ρ', hK, hR, hf, q⟩ := hq
  obtain ⟨⟨rv, ρ1⟩, h1, hf⟩ := bindS hf
  obtain ⟨k', h2, hf⟩ := bindS hf
  cases hf
  refine chain_read (c' := c') ⟨c, E, ρ, rv, ρ1, hK, hR, h1, fun z H' P => ?_⟩
  obtain ⟨rfl, s1, R1⟩ := bl_read h2 P
  exact ⟨k, rfl, q H' ⟨s1, R1⟩⟩
theorem tb_read {gb : List D → Option RV} {σ : L2.St} {H : Hp} {Q : VK} (hq : tE X (eB gb fs) σ H Q) : tCB (rDs X.K gb) (tOps X fs) σ H Q := by
  obtain ⟨c, E, ρ, rv, ρ', hK, hR, hf, q⟩ := hq
  obtain ⟨⟨ps, ρ1⟩, h1, hf⟩ := bindS hf
  obtain ⟨xs, h2, hf⟩ := bindS hf
  obtain ⟨w, h3, hf⟩ := bindS hf
  cases hf
  refine ⟨c, E, ρ, ps, ρ1, hK, hR, h1, fun zs H1 P1 => ⟨OE ρ1 σ E, xs, rv, oe_there P1.2.1, ?_, h3, fun z H' rb => q z H' (ResB.post P1.1 P1.2.1 (by rw [hK]; exact rb))⟩⟩
  rw [← hK]; exact P1.2.2.tops P1.2.1 h2
theorem zpe_tup {x1 : Nat} (ha : PA X es (tOps X fs)) : PE X (.Tuple es x1 pos) (tE X (eTup fs)) := by
  refine ⟨fun pins s σ H Q I hq => (pe_tup ha).run pins s σ H Q I ?_⟩
  obtain ⟨c, E, ρ, rv, ρ', hK, hR, hf, q⟩ := hq
  obtain ⟨⟨ps, ρ1⟩, h1, hf⟩ := bindS hf
  obtain ⟨ds, h2, hf⟩ := bindS hf
  split at hf
  · rename_i hz
    cases hf
    refine ⟨c, E, ρ, ps, ρ1, hK, hR, h1, fun zs H1 P1 => ?_⟩
    have r := tvs_ok P1.2.1 h2 P1.2.2
    exact ⟨by rw [← r.length]; exact szb_ok hz, fun p np => q _ _ (ResB.post P1.1 P1.2.1 (resTup (oe_there P1.2.1) r np))⟩
  · cases hf
theorem zpe_lst (ha : PA X es (tOps X fs)) : PE X (.List es pos) (tE X (eLst fs)) := by
  refine ⟨fun pins s σ H Q I hq => (pe_lst ha).run pins s σ H Q I ?_⟩
  obtain ⟨c, E, ρ, rv, ρ', hK, hR, hf, q⟩ := hq
  obtain ⟨⟨ps, ρ1⟩, h1, hf⟩ := bindS hf
  obtain ⟨ds, h2, hf⟩ := bindS hf
  split at hf
  · rename_i hz
    cases hf
    refine ⟨c, E, ρ, ps, ρ1, hK, hR, h1, fun zs H1 P1 => ?_⟩
    have r := tvs_ok P1.2.1 h2 P1.2.2
    exact ⟨by rw [← r.length]; exact szb_ok hz, fun p np => q _ _ (ResB.post P1.1 P1.2.1 (resLst r np))⟩
  · cases hf
/-! slices -/
def tI (X : Cx) (f : MI) : L2.TO := fun σ H Q => ∃ c E ρ o ρ', c.K = X.K ∧ R c E ρ σ H ∧ f ρ = some (o, ρ') ∧ ∀ H', Stp ρ σ H ρ' σ H' ∧ R c E ρ' σ H' → Q o H'
theorem zpi_no : PO X none (tI X iNo) := by
  refine ⟨fun pins s σ H Q I hq => po_none.run pins s σ H Q I ?_⟩
  obtain ⟨c, E, ρ, o, ρ', hK, hR, hf, q⟩ := hq
  cases hf
  exact q H ⟨Stp.rfl, hR⟩
theorem zpi_some (ha : PE X a (tE X f)) : PO X (some a) (tI X (iSome f)) := by
  refine ⟨fun pins s σ H Q I hq => (po_some ha).run pins s σ H Q I ?_⟩
  obtain ⟨c, E, ρ, o, ρ', hK, hR, hf, q⟩ := hq
  obtain ⟨⟨rv, ρ1⟩, h1, hf⟩ := bindS hf
  obtain ⟨i, h2, hf⟩ := bindS hf
  cases hf
  have e := asI_ok h2
  subst e
  refine ⟨c, E, ρ, _, ρ1, hK, hR, h1, fun z H1 P1 => ?_⟩
  obtain ⟨s1, r1, p1⟩ := P1.v
  cases p1
  exact ⟨i, rfl, q H1 ⟨s1, r1⟩⟩
theorem cut_reps {K : PySem.W.Frag} {H : Hp} {O : AS} {ds : List D} {vs : List V} {lo hi : Option Int} (r : Reps K H O ds vs) : Reps K H O (cut ds lo hi) (cutV vs lo hi) := by
  unfold cut cutV
  rw [r.length]
  exact (r.drop _).take _
theorem strOk_cut {z : Str} {lo hi : Option Int} (h : PyData.strOk z = true) : PyData.strOk (cutS z lo hi) = true := by
  rw [strOk_iff] at *
  intro c hc
  have e : (cutS z lo hi).cps.toList = (z.cps.toList.drop (HT.sIx z.length 0 lo)).take (HT.sIx z.length z.length hi - HT.sIx z.length 0 lo) := by unfold cutS; rw [List.toList_toArray]
  rw [e] at hc
  exact h c (List.mem_of_mem_drop (List.mem_of_mem_take hc))
def rSlD (K : PySem.W.Frag) : V → Option Int → Option Int → Hp → VK → Prop := fun x lo hi H Q => ∃ (O : AS) (d : D) (rv : RV), (∀ b, O b → ∃ o, H b = some o) ∧ Top K H O d x ∧ slD d lo hi = some rv ∧ ∀ z H', ResB K H O rv H' z → Q z H'
theorem cut_whole {K : PySem.W.Frag} {H : Hp} {O : AS} {xs : List D} {vs : List V} {lo hi : Option Int} {a : Addr} (t : Top K H O (.tuple xs) (.ref a)) (ra : Reps K H O xs vs)
    (hw : HT.sIx vs.length 0 lo = 0 ∧ HT.sIx vs.length vs.length hi = vs.length) : Rep K H O (.tuple (cut xs lo hi)) (.ref a) := by
  have e : cut xs lo hi = xs := by
    unfold cut
    rw [ra.length, hw.1, hw.2, List.drop_zero, Nat.sub_zero, ← ra.length, List.take_length]
  rw [e]
  rcases t with t | ⟨_, _, t⟩
  · exact t
  · exact t.elim
theorem sld : SlR X (rSlD X.K) := by
  intro pins s σ H x v vl vu lo hi sl Q I rx hs pl pu ⟨O, d, rv, hO, t, hf, q⟩
  unfold slD at hf
  split at hf
  · obtain ⟨a, vs, rfl, ha, ra⟩ := t.list
    cases hf
    exact sl_list pins s σ H _ v vl vu _ _ sl Q I rx hs pl pu ⟨a, vs, rfl, ha, fun p np => q _ _ (resLst (cut_reps ra) np)⟩
  · obtain ⟨a, vs, rfl, ha, ra⟩ := t.tuple
    cases hf
    exact sl_tupA pins s σ H _ v vl vu _ _ sl Q I rx hs pl pu ⟨a, vs, rfl, ha, fun hw => q _ _ (resV (cut_whole t ra hw)), fun _ p np => q _ _ (resTup hO (cut_reps ra) np)⟩
  · split at hf
    · rename_i hz
      have sk := t.strOk
      cases t.str; cases hf
      exact sl_str pins s σ H _ v vl vu _ _ sl Q I rx hs pl pu ⟨_, rfl, szb_ok hz, q _ _ (resV (.str _ (strOk_cut sk)))⟩
    · cases hf
  · cases hf
theorem zpe_slice {lo hi : Option Expr} {p2 : Pos} {fl fh : MI} (ha : PE X a (tOpd X fa)) (hl : PO X lo (tI X fl)) (hh : PO X hi (tI X fh)) : PE X (.Subscript a (.Slice lo hi none p2) pos) (tE X (eSl fa fl fh)) := by
  refine ⟨fun pins s σ H Q I hq => (pe_slice sld ha hl hh).run pins s σ H Q I ?_⟩
  obtain ⟨c, E, ρ, rv, ρ', hK, hR, hf, q⟩ := hq
  obtain ⟨⟨p1, ρ1⟩, h1, hf⟩ := bindS hf
  obtain ⟨⟨l, ρ2⟩, h2, hf⟩ := bindS hf
  obtain ⟨⟨u, ρ3⟩, h3, hf⟩ := bindS hf
  obtain ⟨x, h4, hf⟩ := bindS hf
  obtain ⟨w, h5, hf⟩ := bindS hf
  cases hf
  refine ⟨c, E, ρ, p1, ρ1, hK, hR, h1, fun z H1 P1 => ⟨c, E, ρ1, l, ρ2, hK, P1.2.1, h2, fun H2 P2 => ⟨c, E, ρ2, u, ρ3, hK, P2.2, h3, fun H3 P3 => ?_⟩⟩⟩
  refine ⟨OE ρ3 σ E, x, rv, oe_there P3.2, ?_, h5, fun z H' rb => q z H' (ResB.post (P1.1.trans (P2.1.trans P3.1)) P3.2 (by rw [hK]; exact rb))⟩
  rw [← hK]; exact P1.top (P2.1.trans P3.1) P3.2 h4
end
end Z
namespace Z
open PySem PySem.Spec L2
open PyProof.Rows hiding St

/-! ## stores -/
section
variable {c : Cn} {E E' : AS} {ρ ρ1 ρ' : Rho} {σ σ' : L2.St} {H H1 H' : Hp} {d : D} {z : V} {a : Addr} {i : Nat}
theorem get_set {α : Type} {l : List α} {i j : Nat} {x y : α} (h : (l.set i x)[j]? = some y) : (j = i ∧ x = y ∧ i < l.length) ∨ (j ≠ i ∧ l[j]? = some y) := by
  by_cases e : j = i
  · subst e
    by_cases hl : j < l.length
    · rw [List.getElem?_set_self hl] at h
      exact .inl ⟨rfl, Option.some.inj h, hl⟩
    · rw [List.getElem?_eq_none (by simpa using hl)] at h; cases h
  · rw [List.getElem?_set_ne (Ne.symm e)] at h
    exact .inr ⟨e, h⟩
/-- a slot gets a plain value -/
theorem R.setV (r : R c E ρ σ H) (v : Rep c.K H (OE ρ σ E) d z) (np : i ∉ c.pr) : R c E (ρ.set i (some (.v d))) (σ.set i (some z)) H ∧ Stp ρ σ H (ρ.set i (some (.v d))) (σ.set i (some z)) H := by
  have sub : ∀ (j : Nat) (e : D), (ρ.set i (some (.v d)))[j]? = some (some (.o e)) → j ≠ i ∧ ρ[j]? = some (some (.o e)) := fun j e q => by
    rcases get_set q with ⟨_, q, _⟩ | q
    · cases q
    · exact q
  have sg : ∀ {j : Nat}, j ≠ i → (σ.set i (some z))[j]? = σ[j]? := fun h => List.getElem?_set_ne (Ne.symm h)
  have osub : ∀ b, OwnS (ρ.set i (some (.v d))) (σ.set i (some z)) b → OwnS ρ σ b := fun b ⟨j, e, q1, q2⟩ => by
    obtain ⟨h1, h2⟩ := sub j e q1
    rw [sg h1] at q2
    exact ⟨j, e, h2, q2⟩
  have k : Keeps H (OE ρ σ E) H (OE (ρ.set i (some (.v d))) (σ.set i (some z)) E) := fun b o q n => ⟨q, fun y => n (y.elim .inl fun y => .inr (osub b y))⟩
  refine ⟨⟨by rw [List.length_set, List.length_set]; exact r.len, fun j e q => ?_, fun j e q => ?_, fun j l e f x q1 q2 h1 h2 => ?_, r.eal, r.al, fun j hj => ?_⟩, fun _ _ h _ => h, fun _ _ h => ⟨_, h⟩, fun b _ _ q => osub b q⟩
  · rcases get_set q with ⟨e1, e2, e3⟩ | ⟨e1, e2⟩
    · subst e1
      cases e2
      exact ⟨z, List.getElem?_set_self (by rw [← r.len]; exact e3), v.mono k⟩
    · obtain ⟨v, h1, h2⟩ := r.val j e e2
      exact ⟨v, by rw [sg e1]; exact h1, h2.mono k⟩
  · obtain ⟨h1, h2⟩ := sub j e q
    obtain ⟨x, h3, h4, h5⟩ := r.own j e h2
    exact ⟨x, by rw [sg h1]; exact h3, h4.mono k (fun _ h => h), h5⟩
  · obtain ⟨a1, a2⟩ := sub j e q1
    obtain ⟨b1, b2⟩ := sub l f q2
    rw [sg a1] at h1
    rw [sg b1] at h2
    exact r.inj j l e f x a2 b2 h1 h2
  · rw [sg (fun e => np (e ▸ hj))]
    exact r.prt j hj
/-- a slot gets a new list -/
theorem R.setO (r : R c (Add E a) ρ σ H) (v : OwnAt c.K H (OE ρ σ (Add E a)) d a) (nE : ¬ E a) (n0 : c.H0 a = none) (np : i ∉ c.pr) :
    R c E (ρ.set i (some (.o d))) (σ.set i (some (.ref a))) H ∧ ∀ b, OwnS (ρ.set i (some (.o d))) (σ.set i (some (.ref a))) b → b = a ∨ OwnS ρ σ b := by
  have sg : ∀ {j : Nat}, j ≠ i → (σ.set i (some (.ref a)))[j]? = σ[j]? := fun h => List.getElem?_set_ne (Ne.symm h)
  have own' : ∀ (j : Nat) (e : D) (b : Addr), (ρ.set i (some (.o d)))[j]? = some (some (.o e)) → (σ.set i (some (.ref a)))[j]? = some (some (.ref b)) → (j = i ∧ e = d ∧ b = a) ∨ (j ≠ i ∧ ρ[j]? = some (some (.o e)) ∧ σ[j]? = some (some (.ref b))) := fun j e b q1 q2 => by
    rcases get_set q1 with ⟨e1, e2, e3⟩ | ⟨e1, e2⟩
    · subst e1
      rw [List.getElem?_set_self (by rw [← r.len]; exact e3)] at q2
      cases e2; cases q2
      exact .inl ⟨rfl, rfl, rfl⟩
    · rw [sg e1] at q2
      exact .inr ⟨e1, e2, q2⟩
  have osub : ∀ b, OwnS (ρ.set i (some (.o d))) (σ.set i (some (.ref a))) b → b = a ∨ OwnS ρ σ b := fun b ⟨j, e, q1, q2⟩ => by
    rcases own' j e b q1 q2 with ⟨_, _, q⟩ | ⟨_, q3, q4⟩
    · exact .inl q
    · exact .inr ⟨j, e, q3, q4⟩
  have k : Keeps H (OE ρ σ (Add E a)) H (OE (ρ.set i (some (.o d))) (σ.set i (some (.ref a))) E) := fun b o q n => ⟨q, fun y => n (y.elim (fun y => .inl (.inl y)) fun y => (osub b y).elim (fun e => .inl (.inr e)) .inr)⟩
  refine ⟨⟨by rw [List.length_set, List.length_set]; exact r.len, fun j e q => ?_, fun j e q => ?_, fun j l e f x q1 q2 h1 h2 => ?_, fun b h => r.eal b (.inl h), r.al, fun j hj => ?_⟩, osub⟩
  · rcases get_set q with ⟨e1, e2, e3⟩ | ⟨e1, e2⟩
    · cases e2
    · obtain ⟨v, h1, h2⟩ := r.val j e e2
      exact ⟨v, by rw [sg e1]; exact h1, h2.mono k⟩
  · rcases get_set q with ⟨e1, e2, e3⟩ | ⟨e1, e2⟩
    · subst e1
      cases e2
      exact ⟨a, List.getElem?_set_self (by rw [← r.len]; exact e3), v.mono k (fun _ h => h), nE, .inl n0⟩
    · obtain ⟨x, h3, h4, h5, h6⟩ := r.own j e e2
      exact ⟨x, by rw [sg e1]; exact h3, h4.mono k (fun _ h => h), fun h => h5 (.inl h), h6⟩
  · rcases own' j e x q1 h1 with ⟨j1, _, jx⟩ | ⟨j1, j2, j3⟩
    · rcases own' l f x q2 h2 with ⟨l1, _, _⟩ | ⟨l1, l2, l3⟩
      · rw [j1, l1]
      · exact absurd (show Add E a x from .inr jx) (r.own_not ⟨l, f, l2, l3⟩)
    · rcases own' l f x q2 h2 with ⟨l1, _, lx⟩ | ⟨l1, l2, l3⟩
      · exact absurd (show Add E a x from .inr lx) (r.own_not ⟨j, e, j2, j3⟩)
      · exact r.inj j l e f x j2 l2 j3 l3
  · rw [sg (fun e => np (e ▸ hj))]
    exact r.prt j hj
/-- an own slot's list is changed -/
theorem R.chg {d' : D} (r : R c E ρ σ H) (h : ρ[i]? = some (some (.o d))) (ha : σ[i]? = some (some (.ref a))) (keep : ∀ b o, b ≠ a → H b = some o → H' b = some o) (o : OwnAt c.K H' (OE ρ σ E) d' a) :
    R c E (ρ.set i (some (.o d'))) σ H' ∧ Stp ρ σ H (ρ.set i (some (.o d'))) σ H' := by
  have hi : i < ρ.length := (List.getElem?_eq_some_iff.mp h).1
  have own' : ∀ (j : Nat) (e : D), (ρ.set i (some (.o d')))[j]? = some (some (.o e)) → ∃ e', ρ[j]? = some (some (.o e')) := fun j e q => by
    rcases get_set q with ⟨e1, _, _⟩ | ⟨_, e2⟩
    · rw [e1]; exact ⟨_, h⟩
    · exact ⟨_, e2⟩
  have oS : OwnS (ρ.set i (some (.o d'))) σ = OwnS ρ σ := by
    funext b
    apply propext
    constructor
    · rintro ⟨j, e, q1, q2⟩
      obtain ⟨e', q3⟩ := own' j e q1
      exact ⟨j, e', q3, q2⟩
    · rintro ⟨j, e, q1, q2⟩
      by_cases hj : j = i
      · subst hj
        exact ⟨j, d', List.getElem?_set_self hi, q2⟩
      · exact ⟨j, e, by rw [List.getElem?_set_ne (Ne.symm hj)]; exact q1, q2⟩
  have oE : OE (ρ.set i (some (.o d'))) σ E = OE ρ σ E := by unfold OE; rw [oS]
  have na : OwnS ρ σ a := ⟨i, d, h, ha⟩
  have kk : ∀ b o, H b = some o → ¬ OwnS ρ σ b → H' b = some o := fun b o q n => keep b o (fun e => n (e ▸ na)) q
  have k : Keeps H (OE ρ σ E) H' (OE ρ σ E) := fun b o q n => ⟨kk b o q (fun y => n (.inr y)), n⟩
  have all : ∀ b o, H b = some o → ∃ o', H' b = some o' := fun b u q => by
    by_cases hb : b = a
    · rw [hb]; exact o.there
    · exact ⟨u, keep b u hb q⟩
  refine ⟨⟨by rw [List.length_set]; exact r.len, fun j e q => ?_, fun j e q => ?_, fun j l e f x q1 q2 h1 h2 => ?_, fun b q => let ⟨u, h1⟩ := r.eal b q; all b u h1, fun b u q => let ⟨u', h1⟩ := r.al b u q; all b u' h1, r.prt⟩, kk, all, fun b _ _ q => by rw [← oS]; exact q⟩
  · rcases get_set q with ⟨_, e2, _⟩ | ⟨e1, e2⟩
    · cases e2
    · obtain ⟨v, h1, h2⟩ := r.val j e e2
      exact ⟨v, h1, by rw [oE]; exact h2.mono k⟩
  · rcases get_set q with ⟨e1, e2, _⟩ | ⟨e1, e2⟩
    · subst e1
      cases e2
      obtain ⟨x, h3, h4, h5, h6⟩ := r.own j d h
      rw [ha] at h3
      cases h3
      exact ⟨a, ha, by rw [oE]; exact o, h5, h6⟩
    · obtain ⟨x, h3, h4, h5, h6⟩ := r.own j e e2
      have hx : x ≠ a := fun e' => e1 (r.inj j i e d a e2 h (e' ▸ h3) ha)
      exact ⟨x, h3, by rw [oE]; exact h4.mono k (fun o q => keep x o hx q), h5, h6⟩
  · obtain ⟨e', q3⟩ := own' j e q1
    obtain ⟨f', q4⟩ := own' l f q2
    exact r.inj j l e' f' x q3 q4 h1 h2
end

/-! ## statements -/
inductive Out where
  | nx | bk | ct
  | rt (r : RV)
abbrev SS := Rho → Option (Out × Rho)
def PostN (c : Cn) (E : AS) (ρ : Rho) (σ : L2.St) (H : Hp) (ρ' : Rho) (σ' : L2.St) (H' : Hp) : Prop := Stp ρ σ H ρ' σ' H' ∧ R c E ρ' σ' H'
def PostR (c : Cn) (E : AS) (ρ : Rho) (σ : L2.St) (H : Hp) (ρ' : Rho) (σ' : L2.St) (H' : Hp) (rv : RV) (z : V) : Prop :=
  match rv with
  | .v d => PostN c E ρ σ H ρ' σ' H' ∧ Rep c.K H' (OE ρ' σ' E) d z
  | .o d => ∃ a, z = .ref a ∧ Stp ρ σ H ρ' σ' H' ∧ c.H0 a = none ∧ R c (Add E a) ρ' σ' H' ∧ OwnAt c.K H' (OE ρ' σ' (Add E a)) d a
/-- where a statement ends -/
def EndS (c : Cn) (E : AS) (ρ : Rho) (σ : L2.St) (H : Hp) (ρ' : Rho) (out : Out) (Dd : Ends) : Prop :=
  match out with
  | .nx => ∀ σ' H', PostN c E ρ σ H ρ' σ' H' → Dd.nx σ' H'
  | .bk => ∀ σ' H', PostN c E ρ σ H ρ' σ' H' → Dd.bk σ' H'
  | .ct => ∀ σ' H', PostN c E ρ σ H ρ' σ' H' → Dd.ct σ' H'
  | .rt rv => ∀ z σ' H', PostR c E ρ σ H ρ' σ' H' rv z → Dd.rt z H'
def tS (X : Cx) (pr : List Nat) (s : SS) : TS := fun Dd σ H => ∃ c E ρ out ρ', c.K = X.K ∧ c.pr = pr ∧ R c E ρ σ H ∧ s ρ = some (out, ρ') ∧ EndS c E ρ σ H ρ' out Dd
theorem PostN.trans {c : Cn} {E : AS} {ρ ρ1 ρ2 : Rho} {σ σ1 σ2 : L2.St} {H H1 H2 : Hp} (p : PostN c E ρ σ H ρ1 σ1 H1) (q : PostN c E ρ1 σ1 H1 ρ2 σ2 H2) : PostN c E ρ σ H ρ2 σ2 H2 := ⟨p.1.trans q.1, q.2⟩
theorem PostR.from {c : Cn} {E : AS} {ρ ρ1 ρ2 : Rho} {σ σ1 σ2 : L2.St} {H H1 H2 : Hp} {rv : RV} {z : V} (p : PostN c E ρ σ H ρ1 σ1 H1) (q : PostR c E ρ1 σ1 H1 ρ2 σ2 H2 rv z) : PostR c E ρ σ H ρ2 σ2 H2 rv z := by
  cases rv with
  | v d => exact ⟨p.trans q.1, q.2⟩
  | o d => obtain ⟨a, rfl, s, n, r⟩ := q; exact ⟨a, rfl, p.1.trans s, n, r⟩
theorem EndS.from {c : Cn} {E : AS} {ρ ρ1 ρ2 : Rho} {σ σ1 : L2.St} {H H1 : Hp} {out : Out} {Dd : Ends} (p : PostN c E ρ σ H ρ1 σ1 H1) (h : EndS c E ρ σ H ρ2 out Dd) : EndS c E ρ1 σ1 H1 ρ2 out Dd := by
  cases out with
  | nx => exact fun σ' H' q => h σ' H' (p.trans q)
  | bk => exact fun σ' H' q => h σ' H' (p.trans q)
  | ct => exact fun σ' H' q => h σ' H' (p.trans q)
  | rt rv => exact fun z σ' H' q => h z σ' H' (PostR.from p q)

def sNil : SS := fun ρ => some (.nx, ρ)
def sSeq (s t : SS) : SS := fun ρ => (s ρ).bind fun r => match r.1 with
  | .nx => t r.2
  | o => some (o, r.2)
def sDrop (f : ME) : SS := fun ρ => (f ρ).bind fun r => some (.nx, r.2)
def sSet (pr : List Nat) (i : Nat) (f : ME) : SS := fun ρ => if pr.contains i then none else (f ρ).bind fun r => some (.nx, r.2.set i (some r.1))
def sRet (f : ME) : SS := fun ρ => (f ρ).bind fun r => some (.rt r.1, r.2)
def ownAt (ρ : Rho) (i : Nat) : Bool := match ρ[i]? with
  | some (some (.o _)) => true
  | _ => false
theorem ownAt_ok {ρ : Rho} {i : Nat} (h : ownAt ρ i = true) : ∃ d, ρ[i]? = some (some (.o d)) := by
  unfold ownAt at h
  split at h
  · rename_i d q; exact ⟨d, q⟩
  · cases h
/-- return x -/
def sRetV (pr : List Nat) (i : Nat) : SS := fun ρ => match ρ[i]? with
  | some (some (.v d)) => some (.rt (.v d), ρ)
  | some (some (.o d)) => if pr.contains i || !pr.all (ownAt ρ) then none else some (.rt (.o d), ρ.set i none)
  | _ => none
def sRetN : SS := fun ρ => some (.rt (.v .none), ρ)
def sIf (t : MB) (a b : SS) : SS := fun ρ => (t ρ).bind fun r => if r.1 then a r.2 else b r.2
def sBad : SS := fun _ => none
def whileN (t : MB) (b : SS) : Nat → SS
  | 0 => fun _ => none
  | n + 1 => fun ρ => (t ρ).bind fun r => if r.1 then (b r.2).bind fun s => match s.1 with
      | .nx => whileN t b n s.2
      | .ct => whileN t b n s.2
      | .bk => some (.nx, s.2)
      | .rt v => some (.rt v, s.2)
    else some (.nx, r.2)

section
variable {X : Cx} {pr : List Nat} {e : Expr} {f : ME} {bt : MB} {s t : SS} {st : Stmt} {sts : List Stmt} {pos : Pos}
theorem zs_nil : PSs X [] (tS X pr sNil) := by
  refine ⟨fun pins s σ H Dd I hq => pss_nil.run pins s σ H Dd I ?_⟩
  obtain ⟨c, E, ρ, out, ρ', hK, hp, hR, hf, q⟩ := hq
  cases hf
  exact q σ H ⟨Stp.rfl, hR⟩
theorem zs_cons (h1 : PS X st (tS X pr s)) (h2 : PSs X sts (tS X pr t)) : PSs X (st :: sts) (tS X pr (sSeq s t)) := by
  refine ⟨fun pins s σ H Dd I hq => (pss_cons h1 h2).run pins s σ H Dd I ?_⟩
  obtain ⟨c, E, ρ, out, ρ', hK, hp, hR, hf, q⟩ := hq
  obtain ⟨⟨o1, ρ1⟩, h1, hf⟩ := bindS hf
  refine ⟨c, E, ρ, o1, ρ1, hK, hp, hR, h1, ?_⟩
  cases o1 with
  | nx => exact fun σ' H' p => ⟨c, E, ρ1, out, ρ', hK, hp, p.2, hf, q.from p⟩
  | bk => cases hf; exact q
  | ct => cases hf; exact q
  | rt rv => cases hf; exact q
theorem zs_pass : PS X (.Pass pos) (tS X pr sNil) := by
  refine ⟨fun pins s σ H Dd I hq => ps_pass.run pins s σ H Dd I ?_⟩
  obtain ⟨c, E, ρ, out, ρ', hK, hp, hR, hf, q⟩ := hq
  cases hf
  exact q σ H ⟨Stp.rfl, hR⟩
theorem zs_bad : PS X st (tS X pr sBad) := by
  refine ⟨fun pins s σ H Dd I hq => ?_⟩
  obtain ⟨c, E, ρ, out, ρ', hK, hp, hR, hf, q⟩ := hq
  cases hf
theorem zs_drop (h : PE X e (tE X f)) (hs : swapsWith e none pos.line X.env = pure false) : PS X (.Expr e pos) (tS X pr (sDrop f)) := by
  refine ⟨fun pins s σ H Dd I hq => (ps_expr h hs).run pins s σ H Dd I ?_⟩
  obtain ⟨c, E, ρ, out, ρ', hK, hp, hR, hf, q⟩ := hq
  obtain ⟨⟨rv, ρ1⟩, h1, hf⟩ := bindS hf
  cases hf
  exact ⟨c, E, ρ, rv, ρ1, hK, hR, h1, fun z H1 P1 => let p := P1.pv hR; q σ H1 ⟨p.1, p.2.1⟩⟩
theorem PostE.nE {c : Cn} {E : AS} {ρ ρ1 : Rho} {σ : L2.St} {H H1 : Hp} {a : Addr} (hR : R c E ρ σ H) (n : H a = none) : ¬ E a ∧ c.H0 a = none := by
  constructor
  · intro h
    obtain ⟨u, hu⟩ := hR.eal a h
    rw [n] at hu; cases hu
  · cases q : c.H0 a with
    | none => rfl
    | some u =>
      obtain ⟨w, hw⟩ := hR.al a u q
      rw [n] at hw; cases hw
/-- behind a value: the slot i has it -/
theorem post_set {c : Cn} {E : AS} {ρ ρ1 : Rho} {σ : L2.St} {H H1 : Hp} {rv : RV} {z : V} {i : Nat} (hR : R c E ρ σ H) (P : PostE c E ρ σ H ρ1 H1 rv z) (np : i ∉ c.pr) : PostN c E ρ σ H (ρ1.set i (some rv)) (σ.set i (some z)) H1 := by
  cases rv with
  | v d =>
    obtain ⟨s1, r1, p1⟩ := P
    obtain ⟨r2, s2⟩ := r1.setV p1 np
    exact ⟨s1.trans s2, r2⟩
  | o d =>
    obtain ⟨a, rfl, s1, n, r1, o⟩ := P
    obtain ⟨nE, n0⟩ := PostE.nE (ρ1 := ρ1) (H1 := H1) hR n
    obtain ⟨r2, os⟩ := r1.setO o nE n0 np
    refine ⟨⟨s1.keep, s1.all, fun b o hb q => ?_⟩, r2⟩
    rcases os b q with e | e
    · rw [e, n] at hb; cases hb
    · exact s1.own b o hb e
theorem ncont {l : List Nat} {i : Nat} (h : ¬ l.contains i = true) : i ∉ l := fun q => h (by simpa using q)
theorem zs_set' {i : Nat} {tg : Expr} (h : PS X (.Assign [tg] e pos) (tAsg (tE X f) (gName i))) : PS X (.Assign [tg] e pos) (tS X pr (sSet pr i f)) := by
  refine ⟨fun pins s σ H Dd I hq => h.run pins s σ H Dd I ?_⟩
  obtain ⟨c, E, ρ, out, ρ', hK, hp, hR, hf, q⟩ := hq
  unfold sSet at hf
  split at hf
  · cases hf
  · rename_i np
    obtain ⟨⟨rv, ρ1⟩, h1, hf⟩ := bindS hf
    cases hf
    exact ⟨c, E, ρ, rv, ρ1, hK, hR, h1, fun z H1 P1 => q _ H1 (post_set hR P1 (by rw [hp]; exact ncont np))⟩
theorem zs_ret (h : PE X e (tE X f)) : PS X (.Return (some e) pos) (tS X pr (sRet f)) := by
  refine ⟨fun pins s σ H Dd I hq => (ps_ret h).run pins s σ H Dd I ?_⟩
  obtain ⟨c, E, ρ, out, ρ', hK, hp, hR, hf, q⟩ := hq
  obtain ⟨⟨rv, ρ1⟩, h1, hf⟩ := bindS hf
  cases hf
  refine ⟨c, E, ρ, rv, ρ1, hK, hR, h1, fun z H1 P1 => q z σ H1 ?_⟩
  cases rv with
  | v d => exact ⟨⟨P1.1, P1.2.1⟩, P1.2.2⟩
  | o d =>
    obtain ⟨a, rfl, s1, n, r1, o⟩ := P1
    exact ⟨a, rfl, s1, (PostE.nE (ρ1 := ρ1) (H1 := H1) hR n).2, r1, o⟩
theorem zs_retN : PS X (.Return none pos) (tS X pr sRetN) := by
  refine ⟨fun pins s σ H Dd I hq => ps_retN.run pins s σ H Dd I ?_⟩
  obtain ⟨c, E, ρ, out, ρ', hK, hp, hR, hf, q⟩ := hq
  cases hf
  exact q .non σ H ⟨⟨Stp.rfl, hR⟩, .non⟩
theorem R.lose {c : Cn} {E : AS} {ρ : Rho} {σ : L2.St} {H : Hp} {i : Nat} {d : D} (r : R c E ρ σ H) (h : ρ[i]? = some (some (.o d))) (np : i ∉ c.pr) (ap : ∀ j ∈ c.pr, ownAt ρ j = true) :
    ∃ a, σ[i]? = some (some (.ref a)) ∧ c.H0 a = none ∧ R c (Add E a) (ρ.set i none) σ H ∧ OwnAt c.K H (OE (ρ.set i none) σ (Add E a)) d a ∧ Stp ρ σ H (ρ.set i none) σ H := by
  obtain ⟨a, h1, h2, h3, h4⟩ := r.own i d h
  have sub : ∀ (j : Nat) (e : RV), (ρ.set i none)[j]? = some (some e) → j ≠ i ∧ ρ[j]? = some (some e) := fun j e q => by
    rcases get_set q with ⟨_, q, _⟩ | q
    · cases q
    · exact q
  have osub : ∀ b, OwnS (ρ.set i none) σ b → OwnS ρ σ b := fun b ⟨j, e, q1, q2⟩ => ⟨j, e, (sub j _ q1).2, q2⟩
  have na : OwnS ρ σ a := ⟨i, d, h, h1⟩
  have k : Keeps H (OE ρ σ E) H (OE (ρ.set i none) σ (Add E a)) := fun b o q n => ⟨q, fun y => y.elim (fun y => y.elim (fun y => n (.inl y)) fun e => n (.inr (e ▸ na))) fun y => n (.inr (osub b y))⟩
  have n0 : c.H0 a = none := by
    rcases h4 with h4 | ⟨j, hj, ej⟩
    · exact h4
    · obtain ⟨e, he⟩ := ownAt_ok (ap j hj)
      have q : σ[j]? = some (some (.ref a)) := by rw [r.prt j hj]; exact ej
      exact absurd (r.inj j i e d a he h q h1 ▸ hj) np
  refine ⟨a, h1, n0, ⟨by rw [List.length_set]; exact r.len, fun j e q => ?_, fun j e q => ?_, fun j l e f x q1 q2 => ?_, fun b q => ?_, r.al, r.prt⟩, h2.mono k (fun _ h => h), fun _ _ h _ => h, fun _ _ h => ⟨_, h⟩, fun b _ _ q => osub b q⟩
  · obtain ⟨v, h5, h6⟩ := r.val j e (sub j _ q).2
    exact ⟨v, h5, h6.mono k⟩
  · obtain ⟨q1, q2⟩ := sub j _ q
    obtain ⟨x, h5, h6, h7, h8⟩ := r.own j e q2
    refine ⟨x, h5, h6.mono k (fun _ h => h), fun y => y.elim h7 fun e' => q1 (r.inj j i e d a q2 h (e' ▸ h5) h1), h8⟩
  · exact r.inj j l e f x (sub _ _ q1).2 (sub _ _ q2).2
  · rcases q with q | q
    · exact r.eal b q
    · rw [q]; exact h2.there
theorem zs_retV {i : Nat} (h : PE X e (tVar i)) : PS X (.Return (some e) pos) (tS X pr (sRetV pr i)) := by
  refine ⟨fun pins s σ H Dd I hq => (ps_ret h).run pins s σ H Dd I ?_⟩
  obtain ⟨c, E, ρ, out, ρ', hK, hp, hR, hf, q⟩ := hq
  unfold sRetV at hf
  split at hf
  · rename_i d hr
    cases hf
    obtain ⟨v, h1, h2⟩ := hR.val i d hr
    exact ⟨v, h1, q v σ H ⟨⟨Stp.rfl, hR⟩, h2⟩⟩
  · rename_i d hr
    split at hf
    · cases hf
    · rename_i np
      cases hf
      rw [Bool.or_eq_true, not_or] at np
      obtain ⟨np1, np2⟩ := np
      have ap : ∀ j ∈ pr, ownAt ρ j = true := by simpa using np2
      obtain ⟨a, h1, n, r1, o, s1⟩ := hR.lose hr (by rw [hp]; exact ncont np1) (by rw [hp]; exact ap)
      exact ⟨_, h1, q _ σ H ⟨a, rfl, s1, n, r1, o⟩⟩
  · cases hf
theorem zs_if {t0 : Expr} {as bs : List Stmt} (ht : PT X t0 (tT X bt)) (ha : PSs X as (tS X pr s)) (hb : PSs X bs (tS X pr t)) : PS X (.If t0 as bs pos) (tS X pr (sIf bt s t)) := by
  refine ⟨fun pins s σ H Dd I hq => (ps_if ht ha hb).run pins s σ H Dd I ?_⟩
  obtain ⟨c, E, ρ, out, ρ', hK, hp, hR, hf, q⟩ := hq
  obtain ⟨⟨k, ρ1⟩, h1, hf⟩ := bindS hf
  refine ⟨c, E, ρ, k, ρ1, hK, hR, h1, fun H1 P1 => ?_⟩
  cases k with
  | true => exact iteT ⟨c, E, ρ1, out, ρ', hK, hp, P1.2, hf, q.from P1⟩
  | false => exact iteF ⟨c, E, ρ1, out, ρ', hK, hp, P1.2, hf, q.from P1⟩
theorem zs_while {n : Nat} {t0 : Expr} {bs : List Stmt} (hpo : PassesOwn (model X.prog X.w) X.A X.env X.xe) (ht : PT X t0 (tT X bt)) (hb : PSs X bs (tS X pr s)) : PS X (.While t0 bs [] pos) (tS X pr (whileN bt s n)) := by
  refine ⟨fun pins s0 σ H Dd I hq => (ps_while hpo ht hb).run pins s0 σ H Dd I ?_⟩
  obtain ⟨c, E, ρ, out, ρ', hK, hp, hR, hf, q⟩ := hq
  refine ⟨fun m σ1 H1 => ∃ ρ1, R c E ρ1 σ1 H1 ∧ whileN bt s m ρ1 = some (out, ρ') ∧ EndS c E ρ1 σ1 H1 ρ' out Dd, ⟨n, ρ, hR, hf, q⟩, ?_⟩
  rintro m σ1 H1 ⟨ρ1, R1, f1, q1⟩
  cases m with
  | zero => cases f1
  | succ m =>
    obtain ⟨⟨k, ρ2⟩, h2, f1⟩ := bindS f1
    refine ⟨c, E, ρ1, k, ρ2, hK, R1, h2, fun H2 P2 => ?_⟩
    cases k with
    | false =>
      cases f1
      exact iteF (q1 σ1 H2 P2)
    | true =>
      obtain ⟨⟨o3, ρ3⟩, h3, f1⟩ := bindS f1
      refine iteT ⟨fun σ' H' => ∃ ρ1, R c E ρ1 σ' H' ∧ whileN bt s m ρ1 = some (out, ρ') ∧ EndS c E ρ1 σ' H' ρ' out Dd, fun σ' H' h => ⟨m, Nat.lt_succ_self _, h⟩, c, E, ρ2, o3, ρ3, hK, hp, P2.2, h3, ?_⟩
      have P2' : PostN c E ρ1 σ1 H1 ρ2 σ1 H2 := P2
      cases o3 with
      | nx => exact fun σ' H' p => ⟨ρ3, p.2, f1, EndS.from (P2'.trans p) q1⟩
      | ct => exact fun σ' H' p => ⟨ρ3, p.2, f1, EndS.from (P2'.trans p) q1⟩
      | bk => cases f1; exact fun σ' H' p => q1 σ' H' (P2'.trans p)
      | rt rv => cases f1; exact fun z σ' H' p => q1 z σ' H' (PostR.from P2' p)
end
end Z
namespace Z
open PySem PySem.Spec L2
open PyProof.Rows hiding St

/-! ## targets -/
abbrev SG := D → Rho → Option Rho
abbrev SGs := List D → Rho → Option Rho
def Same' (tv : List Nat) (σ σ' : L2.St) : Prop := σ'.length = σ.length ∧ ∀ j, j ∉ tv → σ'[j]? = σ[j]?
def tG (X : Cx) (pr tv : List Nat) (g : SG) : TG := fun v σ H Q => ∃ c E ρ d ρ', c.K = X.K ∧ c.pr = pr ∧ R c E ρ σ H ∧ Rep c.K H (OE ρ σ E) d v ∧ g d ρ = some ρ' ∧ ∀ σ' H', PostN c E ρ σ H ρ' σ' H' → Same' tv σ σ' → Q σ' H'
def tGs (X : Cx) (pr tv : List Nat) (g : SGs) : TGs := fun vs σ H Q => ∃ c E ρ ds ρ', c.K = X.K ∧ c.pr = pr ∧ R c E ρ σ H ∧ Reps c.K H (OE ρ σ E) ds vs ∧ g ds ρ = some ρ' ∧ ∀ σ' H', PostN c E ρ σ H ρ' σ' H' → Same' tv σ σ' → Q σ' H'
def gN (pr : List Nat) (i : Nat) : SG := fun d ρ => if pr.contains i then none else some (ρ.set i (some (.v d)))
def gNil : SGs := fun ds ρ => match ds with
  | [] => some ρ
  | _ => none
def gCons (g : SG) (h : SGs) : SGs := fun ds ρ => match ds with
  | d :: r => (g d ρ).bind fun ρ1 => h r ρ1
  | [] => none
def gTup (h : SGs) : SG := fun d ρ => match d with
  | .tuple ds => h ds ρ
  | _ => none
def setD (d i x : D) : Option D := match d with
  | .list ds => match i with
    | .int i => (ixN ds.length i).bind fun j => some (.list (ds.set j x))
    | _ => none
  | .dict ds => if isKD i && decide (ds.length < 16777216) then some (.dict (setK ds i x)) else none
  | _ => none
def asV : RV → Option D
  | .v d => some d
  | _ => none
theorem asV_ok {rv : RV} {d : D} (h : asV rv = some d) : rv = .v d := by
  unfold asV at h
  split at h <;> first | (cases h; rfl) | cases h
def rSetD : TSet := fun o i v H Q => rSetL o i v H Q ∨ ∃ a kvs k, o = .ref a ∧ i = kV k ∧ H a = some (.dK kvs) ∧ kvs.length < sizeLine ∧ Q (upd H a (.dK (putK kvs k v)))
theorem set_any {X : Cx} (hu : X.A.units + 66 < cLine) : PSet X rSetD := by
  intro pins s σ H o i v ov iv u Q I ro ri rv h
  rcases h with h | ⟨a, kvs, k, rfl, rfl, e, hl, q⟩
  · exact set_list pins s σ H o i v ov iv u Q I ro ri rv h
  · cases ro
    exact d_setItem (by omega) I (.k e hl) ri rv fun s' I' => ⟨_, I', q⟩
def gIx (o : Nat) (fi : ME) : SG := fun d ρ => (slot ρ o).bind fun _ => (fi ρ).bind fun r => (asV r.1).bind fun i => match r.2[o]? with
  | some (some (.o l)) => (setD l i d).bind fun l' => some (r.2.set o (some (.o l')))
  | _ => none
def sAsg (f : ME) (g : SG) : SS := fun ρ => (f ρ).bind fun r => (g r.1.d r.2).bind fun ρ2 => some (.nx, ρ2)

section
variable {X : Cx} {pr tv tv2 : List Nat} {e tg : Expr} {es : List Expr} {f fi : ME} {g : SG} {h : SGs} {pos : Pos}
theorem Same'.rfl {σ : L2.St} : Same' tv σ σ := ⟨Eq.refl _, fun _ _ => Eq.refl _⟩
theorem Same'.trans {σ σ1 σ2 : L2.St} (a : Same' tv σ σ1) (b : Same' tv2 σ1 σ2) : Same' (tv ++ tv2) σ σ2 :=
  ⟨b.1.trans a.1, fun j hj => by
    rw [List.mem_append, not_or] at hj
    exact (b.2 j hj.2).trans (a.2 j hj.1)⟩
theorem zg_name {i : Nat} (hg : PG X e (gName i)) : PG X e (tG X pr [i] (gN pr i)) := by
  refine ⟨fun pins s σ H v u Q I r hq => hg.run pins s σ H v u Q I r ?_⟩
  obtain ⟨c, E, ρ, d, ρ', hK, hp, hR, hv, hf, q⟩ := hq
  unfold gN at hf
  split at hf
  · cases hf
  · rename_i np
    cases hf
    obtain ⟨r2, s2⟩ := hR.setV (i := i) hv (by rw [hp]; exact ncont np)
    exact q _ H ⟨s2, r2⟩ ⟨List.length_set, fun j hj => List.getElem?_set_ne (fun e => hj (by rw [e]; exact List.mem_singleton.mpr rfl))⟩
theorem zgs_nil : PGs X [] (tGs X pr [] gNil) := by
  refine ⟨fun pins s σ H vs us Q I r hq => pgs_nil.run pins s σ H vs us Q I r ?_⟩
  obtain ⟨c, E, ρ, ds, ρ', hK, hp, hR, hv, hf, q⟩ := hq
  unfold gNil at hf
  split at hf
  · cases hf
    cases hv
    exact ⟨rfl, q σ H ⟨Stp.rfl, hR⟩ Same'.rfl⟩
  · cases hf
theorem zgs_cons {g : SG} {h : SGs} (h1 : PG X e (tG X pr tv g)) (h2 : PGs X es (tGs X pr tv2 h)) (hs : (assignEach (e :: es) X.env).map (·.2) = assign e X.env :: (assignEach es X.env).map (·.2)) : PGs X (e :: es) (tGs X pr (tv ++ tv2) (gCons g h)) := by
  refine ⟨fun pins s σ H vs us Q I r hq => (pgs_cons h1 h2 hs).run pins s σ H vs us Q I r ?_⟩
  obtain ⟨c, E, ρ, ds, ρ', hK, hp, hR, hv, hf, q⟩ := hq
  unfold gCons at hf
  split at hf
  · rename_i d r'
    obtain ⟨ρ1, h3, h4⟩ := bindS hf
    cases hv with
    | cons v1 v2 =>
      refine ⟨_, _, rfl, c, E, ρ, d, ρ1, hK, hp, hR, v1, h3, fun σ1 H1 P1 S1 => ⟨c, E, ρ1, r', ρ', hK, hp, P1.2, v2.mono P1.1.keeps, h4, fun σ2 H2 P2 S2 => q σ2 H2 (P1.trans P2) (S1.trans S2)⟩⟩
  · cases hf
def gTn (n : Nat) (h : SGs) : SG := fun d ρ => match d with
  | .tuple ds => if ds.length = n then h ds ρ else none
  | _ => none
theorem zg_tup {k n : Nat} {h : SGs} (hc : X.calm = true) (hh : PGs X es (tGs X pr tv h)) (hn : (assignEach es X.env).length = n) (hst : (assignEach es X.env).findIdx? (·.1) = none) : PG X (.Tuple es k pos) (tG X pr tv (gTn n h)) := by
  refine ⟨fun pins s σ H v u Q I r hq => (pg_tup hc hh hn hst).run pins s σ H v u Q I r ?_⟩
  obtain ⟨c, E, ρ, d, ρ', hK, hp, hR, hv, hf, q⟩ := hq
  unfold gTn at hf
  split at hf
  · rename_i ds
    split at hf
    · rename_i hl
      cases hv with
      | tup ht rs =>
        rw [hK] at ht
        exact ⟨_, _, rfl, ht.sq, by rw [← rs.length]; exact hl, c, E, ρ, ds, ρ', hK, hp, hR, rs, hf, q⟩
    · cases hf
  · cases hf
theorem keeps_upd {c : Cn} {E : AS} {ρ : Rho} {σ : L2.St} {H : Hp} {a : Addr} {o : HO} (na : OwnS ρ σ a) : Keeps H (OE ρ σ E) (upd H a o) (OE ρ σ E) := fun b u q n =>
  by
  have hb : b ≠ a := fun e => n (.inr (by rw [e]; exact na))
  exact ⟨by rw [upd_ne hb]; exact q, n⟩
theorem R.slot_some {c : Cn} {E : AS} {ρ : Rho} {σ : L2.St} {H : Hp} {o : Nat} {d : D} (r : R c E ρ σ H) (h : slot ρ o = some d) : ∃ z, σ[o]? = some (some z) := by
  unfold slot at h
  split at h
  · rename_i rv hr
    cases rv with
    | v d => obtain ⟨v, h3, _⟩ := r.val o d hr; exact ⟨v, h3⟩
    | o d => obtain ⟨v, h3, _⟩ := r.own o d hr; exact ⟨_, h3⟩
  · cases h
theorem zg_ix {o : Nat} {oe ie : Expr} (hu : X.A.units + 66 < cLine) (ho : PE X oe (tVar o)) (hi : PE X ie (tE X fi))
    (ha : ∀ v, assign (.Subscript oe ie pos) X.env v = (do
      let ov ← holding [v] (eval oe X.env)
      let iv ← holding [v, ov] (eval ie X.env)
      standAt pos
      holding [v, ov, iv] (setItem ov iv v)
      release [v, ov, iv] [])) : PG X (.Subscript oe ie pos) (tG X pr [] (gIx o fi)) := by
  refine ⟨fun pins s σ H v u Q I r hq => (pg_sub ho hi (set_any hu) ha).run pins s σ H v u Q I r ?_⟩
  obtain ⟨c, E, ρ, d, ρ', hK, hp, hR, hv, hf, q⟩ := hq
  obtain ⟨_, h0, hf⟩ := bindS hf
  obtain ⟨z, hz⟩ := hR.slot_some h0
  obtain ⟨⟨ri, ρ1⟩, h1, hf⟩ := bindS hf
  obtain ⟨i, h2, hf⟩ := bindS hf
  have e := asV_ok h2
  subst e
  split at hf
  · rename_i l hl
    obtain ⟨l', h3, h4⟩ := bindS hf
    cases h4
    unfold setD at h3
    split at h3
    · rename_i ds
      split at h3
      · rename_i i
        obtain ⟨j, h5, h6⟩ := bindS h3
        cases h6
        refine ⟨z, hz, c, E, ρ, _, ρ1, hK, hR, h1, fun y H1 P1 => ?_⟩
        obtain ⟨s1, r1, p1⟩ := P1.v
        cases p1
        obtain ⟨a, a1, ⟨vs, a2, a3⟩, _⟩ := r1.own o _ hl
        rw [hz] at a1
        cases a1
        refine .inl ⟨a, vs, _, j, rfl, rfl, a2, by rw [← a3.length]; exact h5, ?_⟩
        obtain ⟨r2, s2⟩ := r1.chg (d' := .list (ds.set j d)) (H' := upd H1 a (.lst (vs.set j v))) hl hz (fun b o hb q => by rw [upd_ne hb]; exact q)
          ⟨_, upd_same, Reps.set j ((hv.mono s1.keeps).mono (keeps_upd (c := c) ⟨o, _, hl, hz⟩)) (a3.mono (keeps_upd (c := c) ⟨o, _, hl, hz⟩))⟩
        exact q σ _ ⟨s1.trans s2, r2⟩ Same'.rfl
      · cases h3
    · rename_i ds
      split at h3
      · rename_i hc
        rw [Bool.and_eq_true, decide_eq_true_eq] at hc
        obtain ⟨k, rfl⟩ := isKD_ok hc.1
        cases h3
        refine ⟨z, hz, c, E, ρ, _, ρ1, hK, hR, h1, fun y H1 P1 => ?_⟩
        obtain ⟨s1, r1, p1⟩ := P1.v
        have ey : y = kV k ∧ KeyOk k := by
          cases k with
          | inl i => cases p1; exact ⟨rfl, True.intro⟩
          | inr i => cases p1 with | str _ hz => exact ⟨rfl, hz⟩
        obtain ⟨ey, hkey⟩ := ey
        subst ey
        obtain ⟨a, a1, ⟨kvs, a2, a3⟩, _⟩ := r1.own o _ hl
        rw [hz] at a1
        cases a1
        refine .inr ⟨a, kvs, k, rfl, rfl, a2, by rw [sizeLine_eq, ← a3.length]; exact hc.2, ?_⟩
        obtain ⟨r2, s2⟩ := r1.chg (d' := .dict (setK ds (kD k) d)) (H' := upd H1 a (.dK (putK kvs k v))) hl hz (fun b o hb q => by rw [upd_ne hb]; exact q)
          ⟨_, upd_same, setK_ok hkey ((hv.mono s1.keeps).mono (keeps_upd (c := c) ⟨o, _, hl, hz⟩)) (a3.mono (keeps_upd (c := c) ⟨o, _, hl, hz⟩))⟩
        exact q σ _ ⟨s1.trans s2, r2⟩ Same'.rfl
      · cases h3
    · cases h3
  · cases hf
theorem zs_asg (he : PE X e (tE X f)) (hg : PG X tg (tG X pr tv g)) (hs : swapsWithSole [tg] e pos.line X.env = pure false) (hw : swappedStores [tg] e X.env = pure none)
    (h1 : (assignEach [tg] X.env).map (·.2) = [assign tg X.env]) : PS X (.Assign [tg] e pos) (tS X pr (sAsg f g)) := by
  refine ⟨fun pins s σ H Dd I hq => (ps_asg he hg hs hw h1).run pins s σ H Dd I ?_⟩
  obtain ⟨c, E, ρ, out, ρ', hK, hp, hR, hf, q⟩ := hq
  obtain ⟨⟨rv, ρ1⟩, h1, hf⟩ := bindS hf
  obtain ⟨ρ2, h2, hf⟩ := bindS hf
  cases hf
  refine ⟨c, E, ρ, rv, ρ1, hK, hR, h1, fun z H1 P1 => ?_⟩
  obtain ⟨s1, r1, p1⟩ := P1.pv hR
  exact ⟨c, E, ρ1, rv.d, ρ', hK, hp, r1, p1, h2, fun σ' H' P2 _ => q σ' H' ⟨s1.trans P2.1, P2.2⟩⟩
end

/-! ## calls of the text's own defs -/
structure FnS where
  mask : List Bool
  run : List D → Option (RV × List D)
inductive AR where
  | tv (d : D)
  | sl (i : Nat)
  | ow (d : D)
abbrev MAs := Rho → Option (List AR × Rho)
def AddL (E : AS) (as : List Addr) : AS := fun b => E b ∨ b ∈ as
theorem AddL_nil {E : AS} : AddL E [] = E := by
  funext b; apply propext; constructor
  · rintro (h | h)
    · exact h
    · cases h
  · exact .inl
theorem AddL_cons {E : AS} {a : Addr} {as : List Addr} : AddL (Add E a) as = AddL E (a :: as) := by
  funext b; apply propext; constructor
  · rintro ((h | h) | h)
    · exact .inl h
    · exact .inr (by rw [h]; exact List.mem_cons_self)
    · exact .inr (List.mem_cons_of_mem _ h)
  · rintro (h | h)
    · exact .inl (.inl h)
    · rcases List.mem_cons.mp h with h | h
      · exact .inl (.inr h)
      · exact .inr h
def ArAt (c : Cn) (E : AS) (ρ : Rho) (σ : L2.St) (H : Hp) : List AR → List V → List Addr → Prop
  | [], [], [] => True
  | .tv d :: ps, z :: zs, as => Rep c.K H (OE ρ σ E) d z ∧ ArAt c E ρ σ H ps zs as
  | .sl i :: ps, z :: zs, as => σ[i]? = some (some z) ∧ ArAt c E ρ σ H ps zs as
  | .ow d :: ps, z :: zs, a :: as => z = .ref a ∧ OwnAt c.K H (OE ρ σ E) d a ∧ ArAt c E ρ σ H ps zs as
  | _, _, _ => False
def tAs (X : Cx) (f : MAs) : TA := fun σ H Q => ∃ c E ρ ps ρ', c.K = X.K ∧ R c E ρ σ H ∧ f ρ = some (ps, ρ') ∧
  ∀ zs as H', Stp ρ σ H ρ' σ H' ∧ R c (AddL E as) ρ' σ H' ∧ ArAt c (AddL E as) ρ' σ H' ps zs as ∧ (∀ a ∈ as, H a = none) ∧ as.Nodup → Q zs H'
def aNil : MAs := fun ρ => some ([], ρ)
/-- an argument whose value is kept -/
def aTv (f : ME) (g : MAs) : MAs := fun ρ => (f ρ).bind fun r => (g r.2).bind fun s => some (.tv r.1.d :: s.1, s.2)
/-- a list that the def may change: a name's, a new one -/
def aSl (i : Nat) (g : MAs) : MAs := fun ρ => (slot ρ i).bind fun _ => (g ρ).bind fun s => some (.sl i :: s.1, s.2)
def aOw (f : ME) (g : MAs) : MAs := fun ρ => (f ρ).bind fun r => match r.1 with
  | .o d => (g r.2).bind fun s => some (.ow d :: s.1, s.2)
  | _ => none

section
variable {X : Cx} {e : Expr} {es : List Expr} {f : ME} {g : MAs} {pos : Pos}
theorem ArAt.mono {c : Cn} {E E' : AS} {ρ ρ' : Rho} {σ : L2.St} {H H' : Hp} (k : Keeps H (OE ρ σ E) H' (OE ρ' σ E')) (ko : ∀ b o, E b → H b = some o → H' b = some o) :
    ∀ {ps : List AR} {zs : List V} {as : List Addr}, (∀ a ∈ as, E a) → ArAt c E ρ σ H ps zs as → ArAt c E' ρ' σ H' ps zs as
  | [], [], [], _, _ => True.intro
  | .tv _ :: _, _ :: _, _, ha, h => ⟨h.1.mono k, ArAt.mono k ko ha h.2⟩
  | .sl _ :: _, _ :: _, _, ha, h => ⟨h.1, ArAt.mono k ko ha h.2⟩
  | .ow _ :: _, _ :: _, a :: as, ha, h => ⟨h.1, h.2.1.mono k (fun o q => ko a o (ha a List.mem_cons_self) q), ArAt.mono k ko (fun b hb => ha b (List.mem_cons_of_mem _ hb)) h.2.2⟩
  | [], _ :: _, _, _, h => by cases h
  | [], [], _ :: _, _, h => by cases h
  | .tv _ :: _, [], _, _, h => by cases h
  | .sl _ :: _, [], _, _, h => by cases h
  | .ow _ :: _, [], _, _, h => by cases h
  | .ow _ :: _, _ :: _, [], _, h => by cases h
theorem za_nil : PA X [] (tAs X aNil) := by
  refine ⟨fun pos pins s σ H Q I hq => pa_nil.run pos pins s σ H Q I ?_⟩
  obtain ⟨c, E, ρ, p, ρ', hK, hR, hf, q⟩ := hq
  cases hf
  have h1 : R c (AddL E []) ρ σ H := by rw [AddL_nil]; exact hR
  have h2 : ∀ a ∈ ([] : List Addr), H a = none := fun a h => by cases h
  have h3 : ArAt c (AddL E []) ρ σ H [] [] [] := by unfold ArAt; exact True.intro
  exact q [] [] H ⟨Stp.rfl, h1, h3, h2, List.nodup_nil⟩
theorem za_tv (ha : PE X e (tE X f)) (hr : PA X es (tAs X g)) (hs : starEach (e :: es) X.env = (false, eval e X.env) :: starEach es X.env) : PA X (e :: es) (tAs X (aTv f g)) := by
  refine ⟨fun pos pins s σ H Q I hq => (pa_cons ha hr hs).run pos pins s σ H Q I ?_⟩
  obtain ⟨c, E, ρ, p, ρ', hK, hR, hf, q⟩ := hq
  obtain ⟨⟨rv, ρ1⟩, h1, hf⟩ := bindS hf
  obtain ⟨⟨p2, ρ2⟩, h2, hf⟩ := bindS hf
  cases hf
  refine ⟨c, E, ρ, rv, ρ1, hK, hR, h1, fun x H1 P1 => ?_⟩
  obtain ⟨s1, r1, v1⟩ := P1.pv hR
  refine ⟨c, E, ρ1, p2, ρ2, hK, r1, h2, fun zs as H2 ⟨s2, r2, a2, n2, nd⟩ => q _ as H2 ⟨s1.trans s2, r2, ⟨?_, a2⟩, fun a ha => ?_, nd⟩⟩
  · refine v1.mono fun b o hb n => ⟨s2.keep b o hb fun y => n (.inr y), fun y => ?_⟩
    rcases y with (y | y) | y
    · exact n (.inl y)
    · rw [n2 b y] at hb; cases hb
    · exact n (.inr (s2.own b o hb y))
  · cases q : H a with
    | none => rfl
    | some u => obtain ⟨w, hw⟩ := s1.all a u q; rw [n2 a ha] at hw; cases hw
theorem za_sl {i : Nat} (ha : PE X e (tVar i)) (hr : PA X es (tAs X g)) (hs : starEach (e :: es) X.env = (false, eval e X.env) :: starEach es X.env) : PA X (e :: es) (tAs X (aSl i g)) := by
  refine ⟨fun pos pins s σ H Q I hq => (pa_cons ha hr hs).run pos pins s σ H Q I ?_⟩
  obtain ⟨c, E, ρ, p, ρ', hK, hR, hf, q⟩ := hq
  obtain ⟨d, h0, hf⟩ := bindS hf
  obtain ⟨z, hz⟩ := hR.slot_some h0
  obtain ⟨⟨p2, ρ2⟩, h2, hf⟩ := bindS hf
  cases hf
  exact ⟨z, hz, c, E, ρ, p2, ρ2, hK, hR, h2, fun zs as H2 ⟨s2, r2, a2, n2⟩ => q _ as H2 ⟨s2, r2, ⟨hz, a2⟩, n2⟩⟩
theorem za_ow (ha : PE X e (tE X f)) (hr : PA X es (tAs X g)) (hs : starEach (e :: es) X.env = (false, eval e X.env) :: starEach es X.env) : PA X (e :: es) (tAs X (aOw f g)) := by
  refine ⟨fun pos pins s σ H Q I hq => (pa_cons ha hr hs).run pos pins s σ H Q I ?_⟩
  obtain ⟨c, E, ρ, p, ρ', hK, hR, hf, q⟩ := hq
  obtain ⟨⟨rv, ρ1⟩, h1, hf⟩ := bindS hf
  cases rv with
  | v d => cases hf
  | o d =>
    obtain ⟨⟨p2, ρ2⟩, h2, hf⟩ := bindS hf
    cases hf
    refine ⟨c, E, ρ, _, ρ1, hK, hR, h1, fun x H1 P1 => ?_⟩
    obtain ⟨a, rfl, s1, n1, r1, o1⟩ := P1
    refine ⟨c, Add E a, ρ1, p2, ρ2, hK, r1, h2, fun zs as H2 ⟨s2, r2, a2, n2, nd⟩ => q _ (a :: as) H2 ?_⟩
    rw [AddL_cons] at r2 a2
    obtain ⟨u, hu⟩ := o1.there
    have nS : ¬ OwnS ρ1 σ a := fun y => r1.own_not y (.inr rfl)
    refine ⟨s1.trans s2, r2, ⟨rfl, ?_, a2⟩, fun b hb => ?_, List.nodup_cons.mpr ⟨fun m => ?_, nd⟩⟩
    · refine o1.mono (fun b o hb n => ⟨s2.keep b o hb fun y => n (.inr y), fun y => ?_⟩) fun o q => s2.keep a o q nS
      rcases y with (y | y) | y
      · exact n (.inl (.inl y))
      · rcases List.mem_cons.mp y with y | y
        · exact n (.inl (.inr y))
        · rw [n2 b y] at hb; cases hb
      · exact n (.inr (s2.own b o hb y))
    · rcases List.mem_cons.mp hb with hb | hb
      · rw [hb]; exact n1
      · cases q : H b with
        | none => rfl
        | some u => obtain ⟨w, hw⟩ := s1.all b u q; rw [n2 b hb] at hw; cases hw
    · rw [n2 a m] at hu; cases hu
end

/-- the masked arguments stand at ms -/
def ArgRel (K : PySem.W.Frag) (H : Hp) (O : AS) : List Bool → List D → List V → List Addr → Prop
  | [], [], [], [] => True
  | false :: ms, d :: ds, v :: vs, as => Rep K H O d v ∧ ArgRel K H O ms ds vs as
  | true :: ms, d :: ds, v :: vs, a :: as => v = .ref a ∧ OwnAt K H O d a ∧ ArgRel K H O ms ds vs as
  | _, _, _, _ => False
def Outs (K : PySem.W.Frag) (H : Hp) (O : AS) : List D → List Addr → Prop
  | [], [] => True
  | d :: ds, a :: as => OwnAt K H O d a ∧ Outs K H O ds as
  | _, _ => False
def CallPost (K : PySem.W.Frag) (H : Hp) (O : AS) (ms : List Addr) (outs : List D) (rv : RV) (z : V) (H' : Hp) : Prop :=
  (∀ b o, H b = some o → b ∉ ms → H' b = some o) ∧ (∀ b o, H b = some o → ∃ o', H' b = some o') ∧
  match rv with
  | .v d => Rep K H' O d z ∧ Outs K H' O outs ms
  | .o d => ∃ a, z = .ref a ∧ H a = none ∧ OwnAt K H' (Add O a) d a ∧ Outs K H' (Add O a) outs ms
def spF (K : PySem.W.Frag) (F : FnS) : Sp := fun vs H Q _ => ∃ (O : AS) (ds : List D) (ms : List Addr) (rv : RV) (outs : List D), vs.length = F.mask.length ∧ F.run ds = some (rv, outs) ∧ (∀ b, O b → ∃ o, H b = some o) ∧
  ArgRel K H O F.mask ds vs ms ∧ ms.Nodup ∧ (∀ a ∈ ms, O a) ∧ ∀ z H', CallPost K H O ms outs rv z H' → Q z H'
/-- the data of the arguments -/
def argsD : List Bool → List AR → Rho → Option (List D)
  | [], [], _ => some []
  | false :: ms, .tv d :: ps, ρ => (argsD ms ps ρ).bind fun ds => some (d :: ds)
  | true :: ms, .sl i :: ps, ρ => match ρ[i]? with
    | some (some (.o d)) => (argsD ms ps ρ).bind fun ds => some (d :: ds)
    | _ => none
  | true :: ms, .ow d :: ps, ρ => (argsD ms ps ρ).bind fun ds => some (d :: ds)
  | _, _, _ => none
def ownIx : List Bool → List AR → List Nat
  | true :: ms, .sl i :: ps => i :: ownIx ms ps
  | _ :: ms, _ :: ps => ownIx ms ps
  | _, _ => []
/-- the slots of the masked names have what the def leaves -/
def putO : List Bool → List AR → List D → Rho → Option Rho
  | [], [], [], ρ => some ρ
  | false :: ms, _ :: ps, outs, ρ => putO ms ps outs ρ
  | true :: ms, .sl i :: ps, d :: outs, ρ => putO ms ps outs (ρ.set i (some (.o d)))
  | true :: ms, .ow _ :: ps, _ :: outs, ρ => putO ms ps outs ρ
  | _, _, _, _ => none
def nodupN (l : List Nat) : Bool := decide l.Nodup
def eCall (F : FnS) (fs : MAs) : ME := fun ρ => (fs ρ).bind fun r => (argsD F.mask r.1 r.2).bind fun ds => if nodupN (ownIx F.mask r.1) then (F.run ds).bind fun w => (putO F.mask r.1 w.2 r.2).bind fun ρ2 => some (w.1, ρ2) else none
end Z
namespace Z
open PySem PySem.Spec L2
open PyProof.Rows hiding St

abbrev Tr := Nat × D × Addr
def putT (ts : List Tr) (ρ : Rho) : Rho := ts.foldl (fun ρ t => ρ.set t.1 (some (.o t.2.1))) ρ
theorem putT_len : ∀ (ts : List Tr) (ρ : Rho), (putT ts ρ).length = ρ.length
  | [], _ => rfl
  | t :: ts, ρ => by
    show (putT ts (ρ.set t.1 (some (.o t.2.1)))).length = ρ.length
    rw [putT_len ts, List.length_set]
theorem putT_ne : ∀ (ts : List Tr) (ρ : Rho) (j : Nat), (∀ t ∈ ts, t.1 ≠ j) → (putT ts ρ)[j]? = ρ[j]?
  | [], _, _, _ => rfl
  | t :: ts, ρ, j, h => by
    show (putT ts (ρ.set t.1 (some (.o t.2.1))))[j]? = ρ[j]?
    rw [putT_ne ts _ j fun u hu => h u (List.mem_cons_of_mem _ hu), List.getElem?_set_ne (h t List.mem_cons_self)]
theorem putT_at : ∀ (ts : List Tr) (ρ : Rho), (ts.map (·.1)).Nodup → (∀ t ∈ ts, t.1 < ρ.length) → ∀ t ∈ ts, (putT ts ρ)[t.1]? = some (some (.o t.2.1))
  | [], _, _, _, t, h => by cases h
  | u :: ts, ρ, nd, hl, t, h => by
    show (putT ts (ρ.set u.1 (some (.o u.2.1))))[t.1]? = _
    rw [List.map_cons, List.nodup_cons] at nd
    rcases List.mem_cons.mp h with e | h
    · subst e
      rw [putT_ne ts _ _ fun v hv e => nd.1 (by rw [← e]; exact List.mem_map.mpr ⟨v, hv, rfl⟩), List.getElem?_set_self (hl _ List.mem_cons_self)]
    · exact putT_at ts _ nd.2 (fun v hv => by rw [List.length_set]; exact hl v (List.mem_cons_of_mem _ hv)) t h
section
variable {c : Cn} {E1 E2 A : AS} {ρ : Rho} {σ : L2.St} {H H' : Hp}
/-- behind a call that changed the lists at ts -/
theorem R.put {ts : List Tr} (r : R c E1 ρ σ H) (nd : (ts.map (·.1)).Nodup) (hs : ∀ t ∈ ts, (∃ d0, ρ[t.1]? = some (some (.o d0))) ∧ σ[t.1]? = some (some (.ref t.2.2)))
    (keep : ∀ b o, H b = some o → ¬ E1 b → (∀ t ∈ ts, t.2.2 ≠ b) → H' b = some o) (all : ∀ b o, H b = some o → ∃ o', H' b = some o')
    (outs : ∀ t ∈ ts, OwnAt c.K H' (fun b => OE ρ σ E1 b ∨ A b) t.2.1 t.2.2) (hA : ∀ b, A b → H b = none) (h2 : ∀ b, E2 b → E1 b ∨ A b) (eal : ∀ b, E2 b → ∃ o, H' b = some o) :
    R c E2 (putT ts ρ) σ H' ∧ OwnS (putT ts ρ) σ = OwnS ρ σ ∧ Keeps H' (fun b => OE ρ σ E1 b ∨ A b) H' (OE (putT ts ρ) σ E2) ∧ (∀ b o, H b = some o → ¬ E1 b → ¬ OwnS ρ σ b → H' b = some o) := by
  have hlt : ∀ t ∈ ts, t.1 < ρ.length := fun t ht => let ⟨⟨d0, h⟩, _⟩ := hs t ht; (List.getElem?_eq_some_iff.mp h).1
  have own' : ∀ (j : Nat) (e : D), (putT ts ρ)[j]? = some (some (.o e)) → (∃ e', ρ[j]? = some (some (.o e'))) ∧ ((∃ t ∈ ts, t.1 = j ∧ t.2.1 = e) ∨ ((∀ t ∈ ts, t.1 ≠ j) ∧ ρ[j]? = some (some (.o e)))) := fun j e q => by
    by_cases hj : ∃ t ∈ ts, t.1 = j
    · obtain ⟨t, ht, ej⟩ := hj
      subst ej
      rw [putT_at ts ρ nd hlt t ht] at q
      cases q
      exact ⟨(hs t ht).1, .inl ⟨t, ht, rfl, rfl⟩⟩
    · have hn : ∀ t ∈ ts, t.1 ≠ j := fun t ht e => hj ⟨t, ht, e⟩
      rw [putT_ne ts ρ j hn] at q
      exact ⟨⟨e, q⟩, .inr ⟨hn, q⟩⟩
  have oS : OwnS (putT ts ρ) σ = OwnS ρ σ := by
    funext b
    apply propext
    constructor
    · rintro ⟨j, e, q1, q2⟩
      obtain ⟨⟨e', q3⟩, _⟩ := own' j e q1
      exact ⟨j, e', q3, q2⟩
    · rintro ⟨j, e, q1, q2⟩
      by_cases hj : ∃ t ∈ ts, t.1 = j
      · obtain ⟨t, ht, ej⟩ := hj
        subst ej
        exact ⟨t.1, t.2.1, putT_at ts ρ nd hlt t ht, q2⟩
      · exact ⟨j, e, by rw [putT_ne ts ρ j fun t ht e => hj ⟨t, ht, e⟩]; exact q1, q2⟩
  have tS : ∀ t ∈ ts, OwnS ρ σ t.2.2 := fun t ht => let ⟨⟨d0, h⟩, h2⟩ := hs t ht; ⟨t.1, d0, h, h2⟩
  have kk : ∀ b o, H b = some o → ¬ E1 b → ¬ OwnS ρ σ b → H' b = some o := fun b o q n1 n2 => keep b o q n1 fun t ht e => n2 (e ▸ tS t ht)
  have k : Keeps H (OE ρ σ E1) H' (OE (putT ts ρ) σ E2) := fun b o q n => ⟨kk b o q (fun y => n (.inl y)) (fun y => n (.inr y)), fun y => by
    rcases y with y | y
    · rcases h2 b y with y | y
      · exact n (.inl y)
      · rw [hA b y] at q; cases q
    · rw [oS] at y; exact n (.inr y)⟩
  have k2 : Keeps H' (fun b => OE ρ σ E1 b ∨ A b) H' (OE (putT ts ρ) σ E2) := fun b o q n => ⟨q, fun y => by
    rcases y with y | y
    · rcases h2 b y with y | y
      · exact n (.inl (.inl y))
      · exact n (.inr y)
    · rw [oS] at y; exact n (.inl (.inr y))⟩
  refine ⟨⟨by rw [putT_len]; exact r.len, fun j e q => ?_, fun j e q => ?_, fun j l e f x q1 q2 g1 g2 => ?_, eal, fun b u q => let ⟨u', q'⟩ := r.al b u q; all b u' q', r.prt⟩, oS, k2, kk⟩
  · by_cases hj : ∃ t ∈ ts, t.1 = j
    · obtain ⟨t, ht, ej⟩ := hj
      subst ej
      rw [putT_at ts ρ nd hlt t ht] at q
      cases q
    · rw [putT_ne ts ρ j fun t ht e => hj ⟨t, ht, e⟩] at q
      obtain ⟨v, g1, g2⟩ := r.val j e q
      exact ⟨v, g1, g2.mono k⟩
  · obtain ⟨⟨e', q'⟩, q2⟩ := own' j e q
    obtain ⟨x, g1, g2, g3, g4⟩ := r.own j e' q'
    have nE2 : ¬ E2 x := fun y => by
      rcases h2 x y with y | y
      · exact g3 y
      · obtain ⟨u, hu⟩ := g2.there
        rw [hA x y] at hu; cases hu
    rcases q2 with ⟨t, ht, ej, ee⟩ | ⟨hn, q3⟩
    · subst ej; subst ee
      have h5 := (hs t ht).2
      rw [g1] at h5
      cases h5
      exact ⟨t.2.2, g1, (outs t ht).mono k2 (fun _ h => h), nE2, g4⟩
    · rw [q'] at q3
      cases q3
      refine ⟨x, g1, g2.mono k (fun o q => keep x o q g3 fun t ht e => hn t ht ?_), nE2, g4⟩
      obtain ⟨⟨d0, h5⟩, h6⟩ := hs t ht
      exact r.inj t.1 j d0 _ x h5 q' (by rw [← e]; exact h6) g1
  · obtain ⟨⟨e', q3⟩, _⟩ := own' j e q1
    obtain ⟨⟨f', q4⟩, _⟩ := own' l f q2
    exact r.inj j l e' f' x q3 q4 g1 g2
theorem call_args (r : R c E1 ρ σ H) : ∀ {mask : List Bool} {ps : List AR} {zs : List V} {as : List Addr} {ds outs : List D} {ρx ρ2 : Rho}, ArAt c E1 ρ σ H ps zs as → argsD mask ps ρ = some ds → putO mask ps outs ρx = some ρ2 → (ownIx mask ps).Nodup → as.Nodup → (∀ a ∈ as, E1 a) →
    ∃ (ms : List Addr) (ts : List Tr), ArgRel c.K H (OE ρ σ E1) mask ds zs ms ∧ ms.Nodup ∧ zs.length = mask.length ∧ ts.map (·.1) = ownIx mask ps ∧ ρ2 = putT ts ρx ∧
      (∀ t ∈ ts, (∃ d0, ρ[t.1]? = some (some (.o d0))) ∧ σ[t.1]? = some (some (.ref t.2.2))) ∧ (∀ a ∈ ms, (∃ t ∈ ts, t.2.2 = a) ∨ a ∈ as) ∧ (∀ H' O', Outs c.K H' O' outs ms → ∀ t ∈ ts, OwnAt c.K H' O' t.2.1 t.2.2)
  | [], ps, zs, as, ds, outs, ρx, ρ2, ha, hd, hp, _, _, _ => by
    cases ps with
    | nil =>
      cases zs with
      | nil =>
        cases as with
        | nil =>
          cases hd
          cases outs with
          | nil =>
            cases hp
            exact ⟨[], [], by unfold ArgRel; exact True.intro, List.nodup_nil, rfl, rfl, rfl, (fun t h => by cases h), (fun a h => by cases h), fun H' O' _ t h => by cases h⟩
          | cons _ _ => cases hp
        | cons _ _ => cases ha
      | cons _ _ => cases ha
    | cons p ps => cases p <;> cases hd
  | false :: mask, [], _, _, _, _, _, _, _, hd, _, _, _, _ => by cases hd
  | true :: mask, [], _, _, _, _, _, _, _, hd, _, _, _, _ => by cases hd
  | false :: mask, .sl _ :: ps, _, _, _, _, _, _, _, hd, _, _, _, _ => by cases hd
  | false :: mask, .ow _ :: ps, _, _, _, _, _, _, _, hd, _, _, _, _ => by cases hd
  | true :: mask, .tv _ :: ps, _, _, _, _, _, _, _, hd, _, _, _, _ => by cases hd
  | false :: mask, .tv d :: ps, zs, as, ds, outs, ρx, ρ2, ha, hd, hp, nd, na, hE => by
    cases zs with
    | nil => cases ha
    | cons z zs =>
      obtain ⟨ds', e1, e2⟩ := bindS hd
      cases e2
      obtain ⟨ms, ts, h1, h2, h3, h4, h5, h6, h7, h8⟩ := call_args r (ρx := ρx) ha.2 e1 hp nd na hE
      exact ⟨ms, ts, ⟨ha.1, h1⟩, h2, by simp [h3], h4, h5, h6, h7, h8⟩
  | true :: mask, .sl i :: ps, zs, as, ds, outs, ρx, ρ2, ha, hd, hp, nd, na, hE => by
    cases zs with
    | nil => cases ha
    | cons z zs =>
      unfold argsD at hd
      split at hd
      · rename_i d hd0
        obtain ⟨ds', e1, e2⟩ := bindS hd
        cases e2
        cases outs with
        | nil => cases hp
        | cons d' outs =>
          have nd' : i ∉ ownIx mask ps ∧ (ownIx mask ps).Nodup := List.nodup_cons.mp nd
          obtain ⟨ms, ts, h1, h2, h3, h4, h5, h6, h7, h8⟩ := call_args r (ρx := ρx.set i (some (.o d'))) ha.2 e1 hp nd'.2 na hE
          obtain ⟨a, g1, g2, g3, g4⟩ := r.own i d hd0
          have hz := ha.1
          rw [g1] at hz
          cases hz
          refine ⟨a :: ms, (i, d', a) :: ts, ⟨rfl, g2, h1⟩, List.nodup_cons.mpr ⟨fun m => ?_, h2⟩, by simp [h3], ?_, h5, fun t ht => ?_, fun b hb => ?_, fun H' O' ho t ht => ?_⟩
          · rcases h7 a m with ⟨t, ht, et⟩ | m
            · obtain ⟨⟨d0, q1⟩, q2⟩ := h6 t ht
              have e := r.inj t.1 i d0 d a q1 hd0 (by rw [← et]; exact q2) g1
              refine nd'.1 ?_
              rw [← h4, ← e]
              exact List.mem_map.mpr ⟨t, ht, rfl⟩
            · exact g3 (hE a m)
          · show i :: ts.map (·.1) = i :: ownIx mask ps
            rw [h4]
          · rcases List.mem_cons.mp ht with e | ht
            · subst e; exact ⟨⟨d, hd0⟩, g1⟩
            · exact h6 t ht
          · rcases List.mem_cons.mp hb with e | hb
            · exact .inl ⟨(i, d', a), List.mem_cons_self, e.symm⟩
            · rcases h7 b hb with ⟨t, ht, et⟩ | m
              · exact .inl ⟨t, List.mem_cons_of_mem _ ht, et⟩
              · exact .inr m
          · rcases List.mem_cons.mp ht with e | ht
            · subst e; exact ho.1
            · exact h8 H' O' ho.2 t ht
      · cases hd
  | true :: mask, .ow d :: ps, zs, as, ds, outs, ρx, ρ2, ha, hd, hp, nd, na, hE => by
    cases zs with
    | nil => cases ha
    | cons z zs =>
      cases as with
      | nil => cases ha
      | cons a as =>
        obtain ⟨ds', e1, e2⟩ := bindS hd
        cases e2
        cases outs with
        | nil => cases hp
        | cons d' outs =>
          have na' := List.nodup_cons.mp na
          obtain ⟨ms, ts, h1, h2, h3, h4, h5, h6, h7, h8⟩ := call_args r (ρx := ρx) ha.2.2 e1 hp nd na'.2 (fun b hb => hE b (List.mem_cons_of_mem _ hb))
          refine ⟨a :: ms, ts, ⟨ha.1, ha.2.1, h1⟩, List.nodup_cons.mpr ⟨fun m => ?_, h2⟩, by simp [h3], h4, h5, h6, fun b hb => ?_, fun H' O' ho t ht => h8 H' O' ho.2 t ht⟩
          · rcases h7 a m with ⟨t, ht, et⟩ | m
            · obtain ⟨⟨d0, q1⟩, q2⟩ := h6 t ht
              exact r.own_not ⟨t.1, d0, q1, by rw [← et]; exact q2⟩ (hE a List.mem_cons_self)
            · exact na'.1 m
          · rcases List.mem_cons.mp hb with e | hb
            · exact .inr (by rw [e]; exact List.mem_cons_self)
            · rcases h7 b hb with q | m
              · exact .inl q
              · exact .inr (List.mem_cons_of_mem _ m)
end

theorem call_read {X : Cx} {F : FnS} {fs : MAs} {σ : L2.St} {H : Hp} {Q : VK} (hq : tE X (eCall F fs) σ H Q) : tCall (spF X.K F) [] E0 (tAs X fs) σ H Q := by
  obtain ⟨c, E, ρ, rv, ρ', hK, hR, hf, q⟩ := hq
  obtain ⟨⟨ps, ρ1⟩, h1, hf⟩ := bindS hf
  obtain ⟨ds, h2, hf⟩ := bindS hf
  split at hf
  · rename_i nd
    obtain ⟨⟨rv', outs⟩, h3, hf⟩ := bindS hf
    obtain ⟨ρ2, h4, hf⟩ := bindS hf
    cases hf
    refine ⟨c, E, ρ, ps, ρ1, hK, hR, h1, fun zs as H1 ⟨s1, r1, a1, n1, nd1⟩ => ?_⟩
    have hE : ∀ a ∈ as, AddL E as a := fun a ha => .inr ha
    obtain ⟨ms, ts, g1, g2, g3, g4, g5, g6, g7, g8⟩ := call_args r1 (ρx := ρ1) a1 h2 h4 (of_decide_eq_true nd) nd1 hE
    have hms : ∀ a ∈ ms, OE ρ1 σ (AddL E as) a := fun a ha => by
      rcases g7 a ha with ⟨t, ht, et⟩ | m
      · obtain ⟨⟨d0, q1⟩, q2⟩ := g6 t ht
        exact .inr ⟨t.1, d0, q1, by rw [← et]; exact q2⟩
      · exact .inl (.inr m)
    have hE0 : ∀ a, ¬ E a ∨ ∃ o, H a = some o := fun a => Classical.byCases (fun h : E a => .inr (hR.eal a h)) .inl
    rw [← hK]
    refine ⟨OE ρ1 σ (AddL E as), ds, ms, _, outs, by rw [List.append_nil]; exact g3, h3, oe_there r1, by rw [List.append_nil]; exact g1, g2, hms, fun z H' ⟨p1, p2, p3⟩ => ?_⟩
    subst g5
    have keep : ∀ b o, H1 b = some o → ¬ AddL E as b → (∀ t ∈ ts, t.2.2 ≠ b) → H' b = some o := fun b o hb nb nt => p1 b o hb fun m => by
      rcases g7 b m with ⟨t, ht, et⟩ | m
      · exact nt t ht et
      · exact nb (.inr m)
    have stp : ∀ {ρ3 : Rho}, OwnS ρ3 σ = OwnS ρ1 σ → (∀ b o, H1 b = some o → ¬ AddL E as b → ¬ OwnS ρ1 σ b → H' b = some o) → Stp ρ σ H ρ3 σ H' := fun {ρ3} oS kk => by
      refine ⟨fun b o hb nb => ?_, fun b o hb => let ⟨o1, q1⟩ := s1.all b o hb; p2 b o1 q1, fun b o hb y => s1.own b o hb (by rw [← oS]; exact y)⟩
      have q1 := s1.keep b o hb nb
      have nO : ¬ OwnS ρ1 σ b := fun y => nb (s1.own b o hb y)
      have nas : b ∉ as := fun m => by rw [n1 b m] at hb; cases hb
      exact p1 b o q1 fun m => by
        rcases g7 b m with ⟨t, ht, et⟩ | m
        · obtain ⟨⟨d0, w1⟩, w2⟩ := g6 t ht
          exact nO ⟨t.1, d0, w1, by rw [← et]; exact w2⟩
        · exact nas m
    cases rv' with
    | v d =>
      obtain ⟨p4, p5⟩ := p3
      have ko : Keeps H' (OE ρ1 σ (AddL E as)) H' (fun b => OE ρ1 σ (AddL E as) b ∨ False) := fun b o h n => ⟨h, fun y => y.elim n id⟩
      obtain ⟨r2, oS, k2, kk⟩ := r1.put (E2 := E) (A := fun _ => False) (by rw [g4]; exact of_decide_eq_true nd) g6 keep p2 (fun t ht => (g8 _ _ p5 t ht).mono ko (fun _ h => h)) (fun _ h => h.elim) (fun b h => .inl (.inl h))
        (fun b h => let ⟨o, q1⟩ := hR.eal b h; let ⟨o1, q2⟩ := s1.all b o q1; p2 b o1 q2)
      exact q z H' ⟨stp oS kk, r2, (p4.mono ko).mono k2⟩
    | o d =>
      obtain ⟨a, rfl, n2, p4, p5⟩ := p3
      have nH : H a = none := by
        cases w : H a with
        | none => rfl
        | some u => obtain ⟨u', q'⟩ := s1.all a u w; rw [n2] at q'; cases q'
      have ko : Keeps H' (Add (OE ρ1 σ (AddL E as)) a) H' (fun b => OE ρ1 σ (AddL E as) b ∨ b = a) := fun b o h n => ⟨h, n⟩
      obtain ⟨u, hu⟩ := p4.there
      obtain ⟨r2, oS, k2, kk⟩ := r1.put (E2 := Add E a) (A := fun b => b = a) (by rw [g4]; exact of_decide_eq_true nd) g6 keep p2 (fun t ht => (g8 _ _ p5 t ht).mono ko (fun _ h => h)) (fun b h => by rw [h]; exact n2)
        (fun b h => h.elim (fun h => .inl (.inl h)) .inr) (fun b h => h.elim (fun h => let ⟨o, q1⟩ := hR.eal b h; let ⟨o1, q2⟩ := s1.all b o q1; p2 b o1 q2) fun e => ⟨u, by rw [e]; exact hu⟩)
      exact q _ H' ⟨a, rfl, stp oS kk, nH, r2, (p4.mono ko (fun _ h => h)).mono k2 (fun _ h => h)⟩
  · cases hf
end Z
namespace Z
open PySem PySem.Spec L2
open PyProof.Rows hiding St

/-! ## a def by its body -/
def prOf : Nat → List Bool → List Nat
  | _, [] => []
  | n, true :: ms => n :: prOf (n + 1) ms
  | n, false :: ms => prOf (n + 1) ms
def initR : List Bool → List D → List (Option RV)
  | true :: ms, d :: ds => some (.o d) :: initR ms ds
  | false :: ms, d :: ds => some (.v d) :: initR ms ds
  | _, _ => []
def outsOf (ρ : Rho) : List Nat → Option (List D)
  | [] => some []
  | i :: is => match ρ[i]? with
    | some (some (.o d)) => (outsOf ρ is).bind fun ds => some (d :: ds)
    | _ => none
def runF (n : Nat) (mask : List Bool) (body : SS) : List D → Option (RV × List D) := fun ds =>
  if ds.length = mask.length then (body (initR mask ds ++ List.replicate (n - mask.length) none)).bind fun r => match r.1 with
    | .rt rv => (outsOf r.2 (prOf 0 mask)).bind fun os => some (rv, os)
    | .nx => (outsOf r.2 (prOf 0 mask)).bind fun os => some (.v .none, os)
    | _ => none
  else none
theorem prOf_ge : ∀ {ms : List Bool} {n i : Nat}, i ∈ prOf n ms → n ≤ i
  | [], _, _, h => by cases h
  | true :: ms, n, i, h => by
    rcases List.mem_cons.mp h with e | h
    · rw [e]; exact Nat.le_refl _
    · exact Nat.le_trans (Nat.le_succ _) (prOf_ge h)
  | false :: ms, n, i, h => Nat.le_trans (Nat.le_succ _) (prOf_ge (ms := ms) h)
section
variable {K : PySem.W.Frag} {H : Hp} {O : AS}
theorem arg_len : ∀ {mask : List Bool} {ds : List D} {vs : List V} {as : List Addr}, ArgRel K H O mask ds vs as → ds.length = mask.length ∧ vs.length = mask.length ∧ (initR mask ds).length = mask.length
  | [], [], [], [], _ => ⟨rfl, rfl, rfl⟩
  | false :: ms, d :: ds, v :: vs, as, h => let ⟨a, b, c⟩ := arg_len h.2; ⟨by simp [a], by simp [b], by simp [initR, c]⟩
  | true :: ms, d :: ds, v :: vs, a :: as, h => let ⟨a, b, c⟩ := arg_len h.2.2; ⟨by simp [a], by simp [b], by simp [initR, c]⟩
  | [], [], [], _ :: _, h => by cases h
  | [], [], _ :: _, _, h => by cases h
  | [], _ :: _, _, _, h => by cases h
  | true :: _, [], _, _, h => by cases h
  | false :: _, [], _, _, h => by cases h
  | true :: _, _ :: _, [], _, h => by cases h
  | false :: _, _ :: _, [], _, h => by cases h
  | true :: _, _ :: _, _ :: _, [], h => by cases h
/-- what the slots hold at the entry -/
theorem arg_at : ∀ {mask : List Bool} {ds : List D} {vs : List V} {as : List Addr} (n : Nat), ArgRel K H O mask ds vs as →
    (∀ (i : Nat) (d : D), (initR mask ds)[i]? = some (some (.v d)) → ∃ v, vs[i]? = some v ∧ Rep K H O d v) ∧
    (∀ (i : Nat) (d : D), (initR mask ds)[i]? = some (some (.o d)) → ∃ a, vs[i]? = some (.ref a) ∧ OwnAt K H O d a ∧ a ∈ as ∧ n + i ∈ prOf n mask) ∧
    (∀ a ∈ as, ∃ (i : Nat) (d : D), (initR mask ds)[i]? = some (some (.o d)) ∧ vs[i]? = some (.ref a)) ∧
    (as.Nodup → ∀ (i j : Nat) (d e : D) (a : Addr), (initR mask ds)[i]? = some (some (.o d)) → (initR mask ds)[j]? = some (some (.o e)) → vs[i]? = some (.ref a) → vs[j]? = some (.ref a) → i = j) ∧
    (∃ is : List Nat, prOf n mask = is.map (n + ·) ∧ Paired (fun (i : Nat) (a : Addr) => vs[i]? = some (.ref a)) is as)
  | [], [], [], [], n, _ => ⟨(fun i d h => by simp [initR] at h), (fun i d h => by simp [initR] at h), (fun a h => by cases h), (fun _ i j d e a h => by simp [initR] at h), [], rfl, Paired.nil⟩
  | false :: ms, d :: ds, v :: vs, as, n, h => by
    obtain ⟨h1, h2, h3, h4, is, h5, h6⟩ := arg_at (n + 1) h.2
    refine ⟨fun i e q => ?_, fun i e q => ?_, fun a ha => ?_, fun nd i j e f a q1 q2 g1 g2 => ?_, is.map (· + 1), ?_, ?_⟩
    · cases i with
      | zero => simp [initR] at q; subst q; exact ⟨v, rfl, h.1⟩
      | succ i => obtain ⟨w, g1, g2⟩ := h1 i e (by simpa [initR] using q); exact ⟨w, by simpa using g1, g2⟩
    · cases i with
      | zero => simp [initR] at q
      | succ i =>
        obtain ⟨w, g1, g2, g3, g4⟩ := h2 i e (by simpa [initR] using q)
        exact ⟨w, by simpa using g1, g2, g3, by rw [show n + (i + 1) = n + 1 + i by omega]; exact g4⟩
    · obtain ⟨i, e, g1, g2⟩ := h3 a ha
      exact ⟨i + 1, e, by simpa [initR] using g1, by simpa using g2⟩
    · cases i with
      | zero => simp [initR] at q1
      | succ i =>
        cases j with
        | zero => simp [initR] at q2
        | succ j => rw [h4 nd i j e f a (by simpa [initR] using q1) (by simpa [initR] using q2) (by simpa using g1) (by simpa using g2)]
    · show prOf (n + 1) ms = _
      rw [h5, List.map_map]
      exact List.map_congr_left fun i _ => by show n + 1 + i = n + (i + 1); omega
    · clear h1 h2 h3 h4 h5 h
      induction h6 with
      | nil => exact .nil
      | cons r t ih => exact .cons (by simpa using r) ih
  | true :: ms, d :: ds, v :: vs, a :: as, n, h => by
    obtain ⟨ev, o, h⟩ := h
    obtain ⟨h1, h2, h3, h4, is, h5, h6⟩ := arg_at (n + 1) h
    subst ev
    refine ⟨fun i e q => ?_, fun i e q => ?_, fun b hb => ?_, fun nd i j e f x q1 q2 g1 g2 => ?_, 0 :: is.map (· + 1), ?_, .cons rfl ?_⟩
    · cases i with
      | zero => simp [initR] at q
      | succ i => obtain ⟨w, g1, g2⟩ := h1 i e (by simpa [initR] using q); exact ⟨w, by simpa using g1, g2⟩
    · cases i with
      | zero => simp [initR] at q; subst q; exact ⟨a, rfl, o, List.mem_cons_self, List.mem_cons_self⟩
      | succ i =>
        obtain ⟨w, g1, g2, g3, g4⟩ := h2 i e (by simpa [initR] using q)
        exact ⟨w, by simpa using g1, g2, List.mem_cons_of_mem _ g3, by rw [show n + (i + 1) = n + 1 + i by omega]; exact List.mem_cons_of_mem _ g4⟩
    · rcases List.mem_cons.mp hb with e | hb
      · exact ⟨0, d, rfl, by rw [e]; rfl⟩
      · obtain ⟨i, e, g1, g2⟩ := h3 b hb
        exact ⟨i + 1, e, by simpa [initR] using g1, by simpa using g2⟩
    · have nd' := List.nodup_cons.mp nd
      have out : ∀ (k : Nat) (u : D), (initR ms ds)[k]? = some (some (.o u)) → vs[k]? = some (.ref a) → False := fun k u w1 w2 => by
        obtain ⟨y, y1, y2, y3, _⟩ := h2 k u w1
        rw [w2] at y1
        cases y1
        exact nd'.1 y3
      cases i with
      | zero =>
        cases j with
        | zero => rfl
        | succ j =>
          have ex : x = a := by simpa using g1.symm
          subst ex
          exact (out j f (by simpa [initR] using q2) (by simpa using g2)).elim
      | succ i =>
        cases j with
        | zero =>
          have ex : x = a := by simpa using g2.symm
          subst ex
          exact (out i e (by simpa [initR] using q1) (by simpa using g1)).elim
        | succ j => rw [h4 nd'.2 i j e f x (by simpa [initR] using q1) (by simpa [initR] using q2) (by simpa using g1) (by simpa using g2)]
    · show n :: prOf (n + 1) ms = _
      rw [h5, List.map_cons, List.map_map]
      congr 1
      exact List.map_congr_left fun i _ => by show n + 1 + i = n + (i + 1); omega
    · clear h1 h2 h3 h4 h5 h
      induction h6 with
      | nil => exact .nil
      | cons r t ih => exact .cons (by simpa using r) ih
  | [], [], [], _ :: _, _, h => by cases h
  | [], [], _ :: _, _, _, h => by cases h
  | [], _ :: _, _, _, _, h => by cases h
  | true :: _, [], _, _, _, h => by cases h
  | false :: _, [], _, _, _, h => by cases h
  | true :: _, _ :: _, [], _, _, h => by cases h
  | false :: _, _ :: _, [], _, _, h => by cases h
  | true :: _, _ :: _, _ :: _, [], _, h => by cases h
end
theorem outs_at {c : Cn} {E : AS} {ρ : Rho} {σ : L2.St} {H : Hp} {O' : AS} (r : R c E ρ σ H) (k : Keeps H (OE ρ σ E) H O') : ∀ {is : List Nat} {as : List Addr} {ds : List D}, outsOf ρ is = some ds → Paired (fun (i : Nat) (a : Addr) => σ[i]? = some (some (.ref a))) is as →
    Outs c.K H O' ds as ∧ ∀ a ∈ as, OwnS ρ σ a
  | [], [], ds, h, _ => by cases h; exact ⟨by unfold Outs; exact True.intro, fun a h => by cases h⟩
  | i :: is, a :: as, ds, h, .cons p t => by
    unfold outsOf at h
    split at h
    · rename_i d hd
      obtain ⟨ds', e1, e2⟩ := bindS h
      cases e2
      obtain ⟨g1, g2⟩ := outs_at r k e1 t
      obtain ⟨x, x1, x2, _⟩ := r.own i d hd
      rw [p] at x1
      cases x1
      refine ⟨⟨x2.mono k (fun _ h => h), g1⟩, fun b hb => ?_⟩
      rcases List.mem_cons.mp hb with e | hb
      · rw [e]; exact ⟨i, d, hd, p⟩
      · exact g2 b hb
    · cases h

theorem app_get {α : Type} {l r : List α} {i : Nat} {x : α} (h : (l ++ r)[i]? = some x) : (i < l.length ∧ l[i]? = some x) ∨ x ∈ r := by
  by_cases hi : i < l.length
  · rw [List.getElem?_append_left hi] at h
    exact .inl ⟨hi, h⟩
  · rw [List.getElem?_append_right (by omega)] at h
    exact .inr (List.mem_of_getElem? h)
section
variable {P : Program} {w : World} {K : PySem.W.Frag} {mg : Str → Option Value} {base : Heap}
theorem Paired.imp' {α β : Type} {F G : α → β → Prop} {l : List α} {m : List β} (h : Paired F l m) (f : ∀ a b, F a b → G a b) : Paired G l m := Paired.mapP h f
theorem zfn {x qual : Str} {st : Stmt} {f : Addr} {fd : FuncData} {N ps : List Str} {k : Nat} {mask : List Bool} {body : SS} (F : Fun K x qual st f fd) (S : FnScope N ps (defScope st)) (hm : mask.length = ps.length) (hN : ps.length ≤ N.length)
    (hb : ∀ (cdv : Value) (A : Around) (outer : List Env) (s : Shared) (H : Hp) (E : XK), Room k (A.deeper (envOfC qual (defScope st) s.heap.objs.size f cdv)) →
      PSs (cxOf CX0 P w K mg base N qual (defScope st) f cdv A outer s H E).nox (defBody st) (tS (cxOf CX0 P w K mg base N qual (defScope st) f cdv A outer s H E).nox (prOf 0 mask) body)) :
    FnOk P w K mg base CX0 (k + 1) f fd ps (spF K ⟨mask, runF N.length mask body⟩) := by
  refine F.ok S (fun vs H Q E h => ?_) (fun cdv A outer s H vs Q E hr h => ⟨_, hb cdv A outer s H E hr, ?_⟩)
  · obtain ⟨O, ds, ms, rv, outs, h1, _⟩ := h
    exact h1.trans hm
  · obtain ⟨O, ds, ms, rv, outs, h1, h2, h3, h4, h5, h6, q⟩ := h
    have h2 : runF N.length mask body ds = some (rv, outs) := h2
    obtain ⟨l1, l2, l3⟩ := arg_len h4
    unfold runF at h2
    rw [if_pos l1] at h2
    obtain ⟨⟨out, ρ'⟩, e1, e2⟩ := bindS h2
    have l1' : vs.length = mask.length := l2
    obtain ⟨a1, a2, a3, a4, is, a5, a6⟩ := arg_at 0 h4
    have a5 : prOf 0 mask = is := by rw [a5]; simp
    have hst : L2.start N vs = vs.map some ++ List.replicate (N.length - mask.length) none := by unfold L2.start; rw [l1']
    generalize hρ : initR mask ds ++ List.replicate (N.length - mask.length) none = ρ at e1
    have getρ : ∀ (i : Nat) (rv : RV), ρ[i]? = some (some rv) → (initR mask ds)[i]? = some (some rv) ∧ i < mask.length := fun i rv q => by
      rw [← hρ] at q
      rcases app_get q with ⟨w1, w2⟩ | w2
      · exact ⟨w2, by rw [← l3]; exact w1⟩
      · exact nomatch (List.mem_replicate.mp w2).2
    have getσ : ∀ (i : Nat) (v : V), i < mask.length → ((L2.start N vs)[i]? = some (some v) ↔ vs[i]? = some v) := fun i v hi => by
      rw [hst, List.getElem?_append_left (by rw [List.length_map]; omega), List.getElem?_map]
      cases vs[i]? with
      | none => simp
      | some u => simp
    have oS : OwnS ρ (L2.start N vs) = fun b => b ∈ ms := by
      funext b
      apply propext
      constructor
      · rintro ⟨i, d, q1, q2⟩
        obtain ⟨q3, hi⟩ := getρ i _ q1
        obtain ⟨a, w1, _, w2, _⟩ := a2 i d q3
        rw [getσ i _ hi] at q2
        rw [q2] at w1
        cases w1
        exact w2
      · intro hb
        obtain ⟨i, d, q1, q2⟩ := a3 b hb
        have hi : i < mask.length := by rw [← l3]; exact (List.getElem?_eq_some_iff.mp q1).1
        refine ⟨i, d, ?_, (getσ i _ hi).mpr q2⟩
        rw [← hρ, List.getElem?_append_left (by rw [l3]; exact hi)]
        exact q1
    have oE : OE ρ (L2.start N vs) (fun b => O b ∧ b ∉ ms) = O := by
      funext b
      apply propext
      unfold OE
      rw [oS]
      constructor
      · rintro (h | h)
        · exact h.1
        · exact h6 b h
      · intro h
        by_cases hb : b ∈ ms
        · exact .inr hb
        · exact .inl ⟨h, hb⟩
    have hR : R ⟨K, H, L2.start N vs, prOf 0 mask⟩ (fun b => O b ∧ b ∉ ms) ρ (L2.start N vs) H := by
      refine ⟨?_, fun i d q => ?_, fun i d q => ?_, fun i j d e a q1 q2 g1 g2 => ?_, fun b h => h3 b h.1, fun b o h => ⟨o, h⟩, fun i _ => rfl⟩
      · rw [← hρ, hst, List.length_append, List.length_append, l3, List.length_map, l1']
        simp
      · obtain ⟨q1, hi⟩ := getρ i _ q
        obtain ⟨v, w1, w2⟩ := a1 i d q1
        rw [oE]
        exact ⟨v, (getσ i _ hi).mpr w1, w2⟩
      · obtain ⟨q1, hi⟩ := getρ i _ q
        obtain ⟨a, w1, w2, w3, w4⟩ := a2 i d q1
        rw [oE]
        exact ⟨a, (getσ i _ hi).mpr w1, w2, fun z => z.2 w3, .inr ⟨i, by rw [Nat.zero_add] at w4; exact w4, (getσ i _ hi).mpr w1⟩⟩
      · obtain ⟨q3, hi⟩ := getρ i _ q1
        obtain ⟨q4, hj⟩ := getρ j _ q2
        exact a4 h5 i j d e a q3 q4 ((getσ i _ hi).mp g1) ((getσ j _ hj).mp g2)
    have pairs : ∀ σ' : L2.St, (∀ i ∈ prOf 0 mask, σ'[i]? = (L2.start N vs)[i]?) → Paired (fun (i : Nat) (a : Addr) => σ'[i]? = some (some (.ref a))) (prOf 0 mask) ms := fun σ' hs => by
      rw [a5] at hs ⊢
      have lt : ∀ i ∈ is, i < mask.length := fun i hi => by
        have hi' : i ∈ prOf 0 mask := by rw [a5]; exact hi
        clear hs
        have gen : ∀ (ms : List Bool) (n : Nat), i ∈ prOf n ms → i < n + ms.length := by
          intro ms
          induction ms with
          | nil => intro n h; cases h
          | cons b ms ih =>
            intro n h
            cases b with
            | true =>
              rcases List.mem_cons.mp h with e | h
              · rw [e, List.length_cons]; omega
              · have := ih (n + 1) h; rw [List.length_cons]; omega
            | false => have := ih (n + 1) h; rw [List.length_cons]; omega
        have := gen mask 0 hi'
        omega
      have gen2 : ∀ {is' : List Nat} {ms' : List Addr}, Paired (fun (i : Nat) (a : Addr) => vs[i]? = some (.ref a)) is' ms' → (∀ i ∈ is', σ'[i]? = (L2.start N vs)[i]?) → (∀ i ∈ is', i < mask.length) → Paired (fun (i : Nat) (a : Addr) => σ'[i]? = some (some (.ref a))) is' ms' := by
        intro is' ms' hp hs lt
        induction hp with
        | nil => exact .nil
        | cons r t ih =>
          refine .cons ?_ (ih (fun i hi => hs i (List.mem_cons_of_mem _ hi)) fun i hi => lt i (List.mem_cons_of_mem _ hi))
          rw [hs _ List.mem_cons_self]
          exact (getσ _ _ (lt _ List.mem_cons_self)).mpr r
      exact gen2 (by simpa using a6) hs lt
    have fin : ∀ (E' : AS) (σ' : L2.St) (H' : Hp), Stp ρ (L2.start N vs) H ρ' σ' H' → R ⟨K, H, L2.start N vs, prOf 0 mask⟩ E' ρ' σ' H' → outsOf ρ' (prOf 0 mask) = some outs → ∀ A : AS, (∀ b, (O b ∨ A b) → ((O b ∧ b ∉ ms) ∨ A b) → E' b) →
        Outs K H' (fun b => O b ∨ A b) outs ms ∧ Keeps H' (OE ρ' σ' E') H' (fun b => O b ∨ A b) := fun E' σ' H' s1 r1 ho A hA => by
      have own : ∀ a ∈ ms, OwnS ρ' σ' a := (outs_at r1 (O' := OE ρ' σ' E') Keeps.rfl ho (pairs σ' r1.prt)).2
      have kk : Keeps H' (OE ρ' σ' E') H' (fun b => O b ∨ A b) := fun b o hb nb => ⟨hb, fun y => by
        by_cases hm : b ∈ ms
        · exact nb (.inr (own b hm))
        · refine nb (.inl (hA b y ?_))
          rcases y with y | y
          · exact .inl ⟨y, hm⟩
          · exact .inr y⟩
      exact ⟨(outs_at r1 kk ho (pairs σ' r1.prt)).1, kk⟩
    have keep : ∀ (σ' : L2.St) (H' : Hp), Stp ρ (L2.start N vs) H ρ' σ' H' → ∀ b o, H b = some o → b ∉ ms → H' b = some o := fun σ' H' s1 b o hb nb => s1.keep b o hb (by rw [oS]; exact nb)
    have noA : (fun b => O b ∨ False) = O := by funext b; simp
    refine ⟨⟨K, H, L2.start N vs, prOf 0 mask⟩, _, ρ, out, ρ', rfl, rfl, hR, e1, ?_⟩
    cases out with
    | bk => cases e2
    | ct => cases e2
    | nx =>
      obtain ⟨os, e3, e4⟩ := bindS e2
      cases e4
      intro σ' H' p
      have f := fin _ σ' H' p.1 p.2 e3 (fun _ => False) (fun b _ h => h.elim id False.elim)
      rw [noA] at f
      exact q .non H' ⟨keep σ' H' p.1, p.1.all, .non, f.1⟩
    | rt rv' =>
      obtain ⟨os, e3, e4⟩ := bindS e2
      cases e4
      intro z σ' H' p
      cases rv with
      | v d =>
        obtain ⟨p1, p2⟩ := p
        have f := fin _ σ' H' p1.1 p1.2 e3 (fun _ => False) (fun b _ h => h.elim id False.elim)
        rw [noA] at f
        exact q z H' ⟨keep σ' H' p1.1, p1.1.all, p2.mono f.2, f.1⟩
      | o d =>
        obtain ⟨a, rfl, s1, n0, r1, o1⟩ := p
        have f := fin _ σ' H' s1 r1 e3 (fun b => b = a) (fun b _ h => h)
        exact q _ H' ⟨keep σ' H' s1, s1.all, a, rfl, n0, o1.mono f.2 (fun _ h => h), f.1⟩
end
end Z
/-! ## enumerate over a tuple, ahead of the hand layer -/
namespace EnT
open PySem PySem.Spec
open PySem.Sem (wp)
open AutoSeq1 (wpAny_loadPart')
open PyProof.Rows hiding St

/-- the iterator of a tuple that an enumerate holds, just made -/
abbrev tIt (l : Addr) : Obj := { cls := .type "tuple_iterator", data := .fields #[.ref l, .int 0 0] }
abbrev eOb (it : Addr) : Obj := { cls := .type "enumerate", data := .fields #[.none, .bool false, .ref it, rawInt 0, .none, .none] }
theorem new_meets (l : Addr) (items : Array Value) (n : Nat) (dc : Option Addr) (sl : Array (Option Value)) :
    Meets (Builtin.«enumerate.__new__» ⟨[.type "enumerate", .ref l], []⟩) (fun _ R s =>
      s.heap.get? l = some { cls := .type "tuple", dict := dc, data := .seq items n, slots := sl } ∧ R (.ok (.ret (.ref (s.heap.push (tIt l)).objs.size))) { s with heap := (s.heap.push (tIt l)).push (eOb s.heap.objs.size) }) := by
  refine .of_wp fun prog w A R s h => ?_
  obtain ⟨hp, g, d, tk, os⟩ := s
  obtain ⟨hl, h⟩ := h
  have hsub := sub_enumerate
  have hT : Heap.IsTuple (Shared.heap ⟨hp, g, d, tk, os⟩) l items := ⟨_, hl, rfl, n, rfl⟩
  wp_walk using wpAny_loadPart' hl
  refine wpAny_stack_any fun st => wpAny_pure ?_
  split
  · rename_i c _ _ _ _ _
    cases (c == Value.type "enumerate") <;> (wp_walk using wpAny_loadPart' hl, wpAny_pyIter_tuple hT; exact ⟨_, rfl, h⟩)
  · wp_walk using wpAny_loadPart' hl, wpAny_pyIter_tuple hT
    exact ⟨_, rfl, h⟩
section
variable {prog : Program} {w : World} {A : Around} {E : Value → Shared → Prop} {s : Shared}
theorem call_en {l : Addr} {items : Array Value} {Q : Value → Shared → Prop} (hL : s.heap.IsTuple l items)
    (h : ∀ h', IsEnum h' (s.heap.objs.size + 1) s.heap.objs.size 0 .none → h'.IsTupleIter s.heap.objs.size l 0 → (∀ b o, s.heap.get? b = some o → h'.get? b = some o) → Q (.ref (s.heap.objs.size + 1)) { s with heap := h' }) :
    wpAny (model prog w) A (call (.type "enumerate") [.ref l]) Q E s := by
  obtain ⟨⟨c, dc, dt, sl⟩, hl, hc, n, hd⟩ := hL
  cases (show c = .type "tuple" from hc)
  cases (show dt = .seq items n from hd)
  have hz : (s.heap.push (tIt l)).objs.size = s.heap.objs.size + 1 := Heap.size_push ..
  have he : IsEnum ((s.heap.push (tIt l)).push (eOb s.heap.objs.size)) (s.heap.objs.size + 1) s.heap.objs.size 0 .none := by
    have q := Heap.get?_push_size (s.heap.push (tIt l)) (o := eOb s.heap.objs.size) rfl
    rw [hz] at q; exact q
  refine callType_new F.called_enumerate (by decide) (F.typeCall_enumerate_1 _) (F.newCall_enumerate_1 _) (fun o => F.args_object_init_2 o _) F.entry_enumerate_new (new_meets l items n dc sl) ⟨hl, ?_⟩
  show _ ∧ _
  rw [hz]
  exact ⟨⟨_, he, rfl⟩, h _ he ⟨_, Heap.get?_push_of_some _ (Heap.get?_push_size _ rfl), rfl, rfl⟩ fun b o x => Heap.get?_push_of_some _ (Heap.get?_push_of_some _ x)⟩
theorem next_item {e it l : Addr} {i : Nat} {items : Array Value} {x old : Value} {Q : Option Value → Shared → Prop}
    (he : IsEnum s.heap e it i old) (hit : s.heap.IsTupleIter it l i) (hl : s.heap.IsTuple l items) (hx : items[i]? = some x) (hne : e ≠ it)
    (hQ : ∀ h', IsEnumOut h' e it ((i : Int) + 1) x s.heap.objs.size → h'.IsTupleIter it l (i + 1) → h'.get? s.heap.objs.size = some { cls := .type "tuple", data := .seq #[.int i s.toks, x] } →
      (∀ b o, b ≠ e → b ≠ it → s.heap.get? b = some o → h'.get? b = some o) → Q (some (.ref s.heap.objs.size)) { s with heap := h', toks := s.toks + 1 }) :
    wpAny (model prog w) A (pyNext (.ref e)) Q E s := by
  have hT : s.TypeIs (.ref e) "enumerate" := ⟨_, he, rfl⟩
  have ne := Ne.symm hne
  unfold pyNext
  refine wpAny_bind (wpAny_attempt (wpAny_callSpecial?_slot (name := Str.ofString "__next__") hT F.slot_enumerate_next (wpAny_call_entry F.slot_enumerate_next hT F.entry_enumerate_next ?_ (F.args_enumerate_next_1 _))))
  obtain ⟨hp, g, d, tk, os⟩ := s
  show wpAny _ _ (field (.ref e) 2 >>= _) _ _ _
  refine wpAny_bind (wpAny_field he rfl (x := .ref it) rfl (wpAny_bind (RZ.nextOf_tuple_item hit hl hx fun h1 hit1 (s1 : Heap.SameBut it hp h1) => ?_)))
  have he1 : IsEnum h1 e it i old := (s1.2 e hne).trans he
  show wpAny _ _ (field (.ref e) 3 >>= _) _ _ ⟨h1, g, d, tk, os⟩
  refine wpAny_bind (wpAny_field he1 rfl (x := rawInt i) rfl ?_)
  show wpAny _ _ (field (.ref e) 4 >>= _) _ _ ⟨h1, g, d, tk, os⟩
  refine wpAny_bind (wpAny_field he1 rfl (x := .none) rfl ?_)
  show wpAny _ _ (mkInt i >>= _) _ _ ⟨h1, g, d, tk, os⟩
  refine wpAny_bind (wpAny_mkInt ?_)
  show wpAny _ _ (setField (.ref e) 3 (rawInt ((i : Int) + 1)) >>= _) _ _ ⟨h1, g, d, tk + 1, os⟩
  refine wpAny_bind (wpAny_setField_rec he1 (by simp) fun h2 (he2 : IsEnum h2 e it ((i : Int) + 1) old) (s2 : Heap.SameBut e h1 h2) => ?_)
  show wpAny _ _ (setField (.ref e) 4 .none >>= _) _ _ ⟨h2, g, d, tk + 1, os⟩
  refine wpAny_bind (wpAny_setField_rec he2 (by simp) fun h3 (he3 : IsEnum h3 e it ((i : Int) + 1) old) (s3 : Heap.SameBut e h2 h3) => ?_)
  show wpAny _ _ (newTuple [.int i tk, x] >>= _) _ _ ⟨h3, g, d, tk + 1, os⟩
  refine wpAny_bind (wpAny_newTuple ?_)
  have hsz : h3.objs.size = hp.objs.size := by rw [s3.1, s2.1, s1.1]
  have hel : e < hp.objs.size := Heap.lt_size he
  obtain ⟨h4, hh⟩ : ∃ h4, h4 = h3.push { cls := .type "tuple", data := .seq #[.int i tk, x] } := ⟨_, rfl⟩
  have he4 : IsEnum h4 e it ((i : Int) + 1) old := by rw [hh]; exact Heap.get?_push_of_some _ he3
  have t4 : h4.get? hp.objs.size = some { cls := .type "tuple", data := .seq #[.int i tk, x] } := by rw [hh, ← hsz]; exact Heap.get?_push_size _ rfl
  have k4 : ∀ b o, b ≠ e → b ≠ it → hp.get? b = some o → h4.get? b = some o := fun b o be bi q => by
    rw [hh]; exact Heap.get?_push_of_some _ (s3.extBut b o be (s2.extBut b o be (s1.extBut b o bi q)))
  have it4 : h4.IsTupleIter it l (i + 1) := by
    rw [hh]
    obtain ⟨o, q, r⟩ := (hit1.extBut s2.extBut ne).extBut s3.extBut ne
    exact ⟨o, Heap.get?_push_of_some _ q, r⟩
  show wpAny _ _ (Builtin.SmallTypes.ownedTupleIsFree (.ref e) >>= _) _ _ ⟨h3.push { cls := .type "tuple", data := .seq #[.int i tk, x] }, g, d, tk + 1, os⟩
  rw [← hh, hsz]
  clear hh he3 s3 he2 s2 he1 s1 hit1 hsz
  refine wpAny_bind ?_
  unfold Builtin.SmallTypes.ownedTupleIsFree
  refine wpAny_bind (wpAny_field he4 rfl (x := .none) rfl (wpAny_pure ?_))
  simp only [if_true]
  refine wpAny_bind (wpAny_rule (wpAny_bind (wpAny_field he4 rfl (x := old) rfl ?_)))
  refine wpAny_bind (wpAny_setField_rec he4 (by simp) fun h5 (he5 : IsEnum h5 e it ((i : Int) + 1) x) (s5 : Heap.SameBut e h4 h5) => ?_)
  show wpAny _ _ (Builtin.SmallTypes.ownedTupleHandOut (.ref e) (.ref hp.objs.size) >>= _) _ _ ⟨h5, g, d, tk + 1, os⟩
  refine wpAny_bind ?_
  unfold Builtin.SmallTypes.ownedTupleHandOut
  refine wpAny_bind (wpAny_setField_rec he5 (by simp) fun h6 (he6 : IsEnumOut h6 e it ((i : Int) + 1) x hp.objs.size) (s6 : Heap.SameBut e h5 h6) => ?_)
  refine wpAny_setField_rec he6 (by simp) fun h7 (he7 : IsEnumOut h7 e it ((i : Int) + 1) x hp.objs.size) (s7 : Heap.SameBut e h6 h7) => ?_
  have up : ∀ b o, b ≠ e → h4.get? b = some o → h7.get? b = some o := fun b o be q => s7.extBut b o be (s6.extBut b o be (s5.extBut b o be q))
  exact wpAny_bind (wpAny_letGo (wpAny_pure ⟨_, rfl, wpAny_pure (hQ h7 he7 (it4.at fun o q => up it o ne q) (up _ _ (Nat.ne_of_gt hel) t4) fun b o be bi q => up b o be (k4 b o be bi q))⟩))
theorem next_end {e it l : Addr} {i : Nat} {items : Array Value} {old : Value} {Q : Option Value → Shared → Prop} (hh : A.handled = none)
    (he : IsEnum s.heap e it i old) (hit : s.heap.IsTupleIter it l i) (hl : s.heap.IsTuple l items) (hx : items[i]? = none)
    (hQ : ∀ h', Heap.ExtBut it s.heap h' → Q none { s with heap := h' }) : wpAny (model prog w) A (pyNext (.ref e)) Q E s := by
  have hT : s.TypeIs (.ref e) "enumerate" := ⟨_, he, rfl⟩
  unfold pyNext
  refine wpAny_bind (wpAny_attempt (wpAny_callSpecial?_slot (name := Str.ofString "__next__") hT F.slot_enumerate_next (wpAny_call_entry F.slot_enumerate_next hT F.entry_enumerate_next ?_ (F.args_enumerate_next_1 _))))
  show wpAny _ _ (field (.ref e) 2 >>= _) _ _ _
  refine wpAny_bind (wpAny_field he rfl (x := .ref it) rfl (wpAny_bind (RZ.nextOf_tuple_end hh hit hl hx fun h' y k hy => ?_)))
  obtain ⟨o, ho, hc⟩ := hy
  exact wpAny_bind (wpAny_isInstance (T := "StopIteration") (b := true) ⟨o, ho, hc⟩ isSubtype_stop (wpAny_pure (hQ _ k)))
end
end EnT
namespace EnT
open PySem PySem.Spec L2
open PyProof.Rows hiding St
/-- the tuple at a, each item in a new pair -/
def IteT (K : PySem.W.Frag) (a : Addr) : It :=
  ⟨fun i H => ∃ (xs : List V) (x : V), SqT K H a xs ∧ xs[i]? = some x, fun i H v H' => ∃ T x, v = .ref T ∧ H T = none ∧ H' = upd H T (.tup [.int (i : Nat), x]) ∧ ∀ xs, SqT K H a xs → xs[i]? = some x, fun i H => ∃ xs : List V, SqT K H a xs ∧ xs.length ≤ i⟩
theorem turn_enT {P : Program} {w : World} {K : PySem.W.Frag} {elts : List Expr} {kk : Nat} {tpos : Pos} (a e it : Addr) :
    Turn P w K (.Tuple elts kk tpos) (IteT K a) [e, it] e (fun i h => (∃ old, IsEnum h e it ((i : Nat) : Int) old) ∧ h.IsTupleIter it a i ∧ e ≠ it) where
  mem := by simp
  obj := fun i h ⟨⟨_, he⟩, ⟨o, ho, _, hd⟩, _⟩ b hb => by
    rcases (show b = e ∨ b = it by simpa using hb) with rfl | rfl
    · exact ⟨_, he, fun v q => nomatch q⟩
    · exact ⟨o, ho, fun v q => by rw [hd] at q; cases q⟩
  keep := fun i h h' ⟨⟨old, he⟩, hi, hne⟩ k => ⟨⟨old, k e (by simp) _ he⟩, hi.at fun o q => k it (by simp) o q, hne⟩
  item := by
    intro X hP hw hK hc i pins s σ H E I hf ⟨⟨old, he⟩, hit, hne⟩ ⟨xs, x, hq, hx⟩
    subst hP hw hK
    obtain ⟨its, rv, p, hz⟩ := I.tuple hq
    obtain ⟨u, hu, ru⟩ := rv.get hx
    have hel : e < s.heap.objs.size := Heap.lt_size he
    have hil : it < s.heap.objs.size := by obtain ⟨_, q, _⟩ := hit; exact Heap.lt_size q
    refine next_item he hit (show s.heap.IsTuple a its.toArray from p) (x := u) (by simpa using hu) hne fun h' ho hit' hT hk => ?_
    refine ⟨_, rfl, wpAny_letOwnedTupleGo_enum (s := { s with heap := h', toks := s.toks + 1 }) ho fun h2 he' sb => ?_⟩
    have hT2 : h2.get? s.heap.objs.size = some { cls := .type "tuple", data := .seq #[.int i s.toks, u] } := (sb.2 _ (Nat.ne_of_gt hel)).trans hT
    have I1 : Inv X pins σ (upd H s.heap.objs.size (.tup [.int (i : Nat), x])) { s with heap := h2, toks := s.toks + 1 } :=
      I.turnedNew (ch := [e, it]) (fun b ob hb q => (sb.2 b (fun z => hb (by simp [z]))).trans (hk b ob (fun z => hb (by simp [z])) (fun z => hb (by simp [z])) q)) hf (Nat.le_refl _)
        ⟨by show 2 ≤ sizeLine; decide, [.int i s.toks, u], .cons ⟨_, rfl⟩ (.cons ru .nil), ⟨_, hT2, rfl, _, rfl⟩⟩
    refine ⟨.ref s.heap.objs.size, _, I1, rfl, ⟨_, x, rfl, I.hok.fresh (Nat.le_refl _), rfl, fun ys hy => by rw [I.tuple_inj hy hq]; exact hx⟩, ⟨⟨u, ?_⟩, hit'.at fun o q => (sb.2 it (Ne.symm hne)).trans q, hne⟩, fun b hb => ?_⟩
    · rw [show ((i + 1 : Nat) : Int) = (i : Int) + 1 by omega]; exact he'
    · have hb' : b < s.heap.objs.size := by
        rcases (show b = e ∨ b = it by simpa using hb) with z | z
        · rw [z]; exact hel
        · rw [z]; exact hil
      rw [upd_ne (Nat.ne_of_lt hb')]
      exact (hf b hb).1
  done := by
    intro X hP hw hK hc i pins s σ H E I hf ⟨⟨old, he⟩, hit, hne⟩ ⟨xs, hq, hx⟩
    subst hP hw hK
    obtain ⟨its, rv, p, hz⟩ := I.tuple hq
    obtain ⟨f0, f1, f2, f3, f4, f5⟩ := hf it (by simp)
    have hl := rv.length
    exact next_end (I.ok.hd hc) he hit (show s.heap.IsTuple a its.toArray from p) (by simp; omega) fun h' eb => ⟨rfl, I.turned (t' := s.toks) (fun b o hb q => eb b o hb q) f0 f1 f3 f4 f5⟩
  self := fun A i s Q E ⟨⟨_, he⟩, _⟩ h => wpAny_pyIter_enum he h
/-- enumerate over a list or a tuple -/
def iEnA (K : PySem.W.Frag) (ta : TA) : TI := fun σ H R => ta σ H fun vs H1 => ∃ a xs, vs = [.ref a] ∧ ((SqL K H1 a xs ∧ R (Ite K a) H1) ∨ (SqT K H1 a xs ∧ R (IteT K a) H1))
theorem pi_enA {X : Cx} {e : Expr} {ta : TA} {p pos tpos : Pos} {elts : List Expr} {kk : Nat} (hg : Gl X "enumerate") (hm : X.mg "enumerate" = none) (ha : PA X [e] ta) (hs : starEach [e] X.env = [(false, eval e X.env)]) :
    PI X (.Tuple elts kk tpos) (.Call (.Name "enumerate" p) [e] [] pos) (iEnA X.K ta) := by
  refine ⟨fun pins s σ H R I h => ?_⟩
  refine Call_ (ld_blt I hg hm boot_enumerate (PyProof.Rows.callWith_type1 (thn (ha.run pos pins s σ H _ I h) fun us s1 ⟨vs, H1, I1, r1, a, xs, ex, q1⟩ => ?_) hs rfl))
  subst ex
  cases r1 with
  | cons r rr =>
    cases rr
    cases r
    have fp : ∀ h' : Heap, (∀ b o, s1.heap.get? b = some o → h'.get? b = some o) → ∀ b ∈ [s1.heap.objs.size + 1, s1.heap.objs.size], s1.heap.objs.size ≤ b := fun h' hk b hb => by
      rcases (show b = s1.heap.objs.size + 1 ∨ b = s1.heap.objs.size by simpa using hb) with z | z
      · rw [z]; exact Nat.le_add_right _ _
      · rw [z]; exact Nat.le_refl _
    rcases q1 with ⟨hq, q⟩ | ⟨hq, q⟩
    · obtain ⟨its, rv, p', hz⟩ := I1.list hq
      refine call_enumerate_list p'.isList fun h' he hit hsz hk => wpAny_pyIter_enum he ?_
      have I2 : Inv X pins σ H1 { s1 with heap := h' } := I1.kept (t' := s1.toks) hk
      exact ⟨s1.heap.objs.size + 1, [s1.heap.objs.size + 1, s1.heap.objs.size], _, _, H1, rfl, I2, turn_enum a (s1.heap.objs.size + 1) s1.heap.objs.size, ⟨⟨.none, he⟩, hit, Nat.succ_ne_self _⟩, fun b hb => I1.fpOk (fp h' hk b hb) (I1.hok.fresh (fp h' hk b hb)), q⟩
    · obtain ⟨its, rv, p', hz⟩ := I1.tuple hq
      refine call_en (show s1.heap.IsTuple a its.toArray from p') fun h' he hit hk => wpAny_pyIter_enum he ?_
      have I2 : Inv X pins σ H1 { s1 with heap := h' } := I1.kept (t' := s1.toks) hk
      exact ⟨s1.heap.objs.size + 1, [s1.heap.objs.size + 1, s1.heap.objs.size], _, _, H1, rfl, I2, turn_enT a (s1.heap.objs.size + 1) s1.heap.objs.size, ⟨⟨.none, he⟩, hit, Nat.succ_ne_self _⟩, fun b hb => I1.fpOk (fp h' hk b hb) (I1.hok.fresh (fp h' hk b hb)), q⟩
end EnT
namespace Z
open PySem PySem.Spec PyProof.Rows RZ
/-! ## zip of a list and a tuple, a tuple and a list: a kind of iterator's own facts, then both together -/
structure ItK where
  It : Heap → Addr → Addr → Nat → Prop
  Sq : Heap → Addr → Array Value → Prop
  itE : ∀ {h h' : Heap} {b it l : Addr} {i : Nat}, It h it l i → Heap.ExtBut b h h' → it ≠ b → It h' it l i
  sqE : ∀ {h h' : Heap} {b l : Addr} {xs : Array Value}, Sq h l xs → Heap.ExtBut b h h' → l ≠ b → Sq h' l xs
  itA : ∀ {h h' : Heap} {it l : Addr} {i : Nat}, It h it l i → (∀ o, h.get? it = some o → h'.get? it = some o) → It h' it l i
  lt : ∀ {h : Heap} {it l : Addr} {i : Nat}, It h it l i → it < h.objs.size
  nocell : ∀ {h : Heap} {it l : Addr} {i : Nat}, It h it l i → ∃ o, h.get? it = some o ∧ ∀ v, o.data ≠ .cell v
  item : ∀ {prog : Program} {w : World} {A : Around} {E : Value → Shared → Prop} {s : Shared} {it l : Addr} {i : Nat} {items : Array Value} {x : Value} {Q : Value → Shared → Prop}, It s.heap it l i → Sq s.heap l items → items[i]? = some x →
    (∀ h', It h' it l (i + 1) → Heap.SameBut it s.heap h' → Q x { s with heap := h' }) → wpAny (model prog w) A (Builtin.SmallTypes.nextOf (.ref it)) Q E s
  fin : ∀ {prog : Program} {w : World} {A : Around} {E : Value → Shared → Prop} {s : Shared} {it l : Addr} {i : Nat} {items : Array Value} {Q : Value → Shared → Prop}, A.handled = none → It s.heap it l i → Sq s.heap l items → items[i]? = none →
    (∀ h' e, Heap.ExtBut it s.heap h' → (∃ o, h'.get? e = some o ∧ o.cls = .type "StopIteration") → E (.ref e) { s with heap := h' }) → wpAny (model prog w) A (Builtin.SmallTypes.nextOf (.ref it)) Q E s
def tupK : ItK where
  It := fun h it l i => h.IsTupleIter it l i
  Sq := fun h l xs => h.IsTuple l xs
  itE := fun a b c => a.extBut b c
  sqE := fun a b c => a.extBut b c
  itA := fun a k => a.at k
  lt := fun a => let ⟨_, e, _⟩ := a; Heap.lt_size e
  nocell := fun a => let ⟨o, e, _, d⟩ := a; ⟨o, e, fun v q => by rw [d] at q; cases q⟩
  item := fun a b c k => nextOf_tuple_item a b c k
  fin := fun hh a b c k => nextOf_tuple_end hh a b c k
def lstK : ItK where
  It := fun h it l i => h.IsListIter it l i
  Sq := fun h l xs => h.IsList l xs
  itE := fun a b c => a.extBut b c
  sqE := fun a b c => a.extBut b c
  itA := fun a k => a.at k
  lt := fun a => let ⟨_, e, _⟩ := a; Heap.lt_size e
  nocell := fun a => let ⟨o, e, _, d⟩ := a; ⟨o, e, fun v q => by rw [d] at q; cases q⟩
  item := fun a b c k => wpAny_nextOf_list_item a b c k
  fin := fun hh a b c k => wpAny_nextOf_list_end hh a b c k
section
variable {KA KB : ItK} {prog : Program} {w : World} {A : Around} {E : Value → Shared → Prop} {s : Shared}
theorem zg_item {z TI TO i1 i2 l1 l2 : Addr} {k1 k2 : Nat} {xs ys : Array Value} {x y a b : Value} {Q : Value → Shared → Prop} (D : ZipApart z TI TO i1 i2 l1 l2)
    (hz : IsZip s.heap z TI TO .none) (hTI : IsPair s.heap TI (.ref i1) (.ref i2)) (hTO : IsPair s.heap TO a b)
    (h1 : KA.It s.heap i1 l1 k1) (h2 : KB.It s.heap i2 l2 k2) (hl1 : KA.Sq s.heap l1 xs) (hl2 : KB.Sq s.heap l2 ys) (hx : xs[k1]? = some x) (hy : ys[k2]? = some y)
    (hQ : ∀ h', IsZip h' z TI TO (rawInt s.heap.objs.size) → IsPair h' TO x y → KA.It h' i1 l1 (k1 + 1) → KB.It h' i2 l2 (k2 + 1) → IsPair h' s.heap.objs.size x y → h'.objs.size = s.heap.objs.size + 1 →
      (∀ c o, c ≠ z → c ≠ TO → c ≠ i1 → c ≠ i2 → s.heap.get? c = some o → h'.get? c = some o) → Q (.ref s.heap.objs.size) { s with heap := h' }) :
    wpAny (model prog w) A (Builtin.«zip.__next__» ⟨[.ref z], []⟩) (fun fin s' => ∃ v, fin = .done (.ret v) ∧ Q v s') E s := by
  show wpAny _ _ (field (.ref z) 2 >>= _) _ _ _
  refine wpAny_bind (wpAny_field hz rfl (x := .bool false) rfl ?_)
  show wpAny _ _ (field (.ref z) 3 >>= _) _ _ _
  refine wpAny_bind (wpAny_field hz rfl (x := .ref TI) rfl ?_)
  refine wpAny_bind (wpAny_seqItems hTI rfl ?_)
  show wpAny _ _ (Builtin.SmallTypes.ownedTupleIsFree (.ref z) >>= _) _ _ _
  refine wpAny_bind ?_; unfold Builtin.SmallTypes.ownedTupleIsFree
  refine wpAny_bind (wpAny_field hz rfl (x := .none) rfl (wpAny_pure ?_))
  simp only [if_true]
  refine wpAny_bind (wpAny_rule ?_)
  refine wpAny_bind (wpAny_field hz rfl (x := .ref TO) rfl ?_)
  refine wpAny_bind (wpAny_setField_rec hz (by simp) fun m1 hz_1 hs_1 => ?_)
  replace hz_1 : IsZip m1 z TI TO .ellipsis := hz_1
  refine wpAny_bind ?_
  simp only [List.zipIdx_cons, List.zipIdx_nil, List.forIn_cons, List.forIn_nil]
  refine wpAny_bind (wpAny_bind (wpAny_onRaise ?_))
  show wpAny _ _ (Builtin.SmallTypes.nextOf (.ref i1) >>= _) _ _ _
  refine wpAny_bind (KA.item (KA.itE h1 hs_1.extBut D.i1z) (KA.sqE hl1 hs_1.extBut D.l1z) hx fun m2 h1_2 hs_2 => wpAny_pure ?_)
  have hTO_2 : IsPair m2 TO a b := hs_2.extBut _ _ D.TOi1 (hs_1.extBut _ _ D.TOz hTO)
  refine wpAny_bind (wpAny_seqItems hTO_2 rfl ?_)
  refine wpAny_bind (wpAny_updateSeq_pair hTO_2 fun m3 hTO_3 hs_3 => ?_)
  replace hTO_3 : IsPair m3 TO x b := hTO_3
  refine wpAny_bind (wpAny_letGo (wpAny_pure ?_))
  refine wpAny_bind (wpAny_bind (wpAny_onRaise ?_))
  show wpAny _ _ (Builtin.SmallTypes.nextOf (.ref i2) >>= _) _ _ _
  refine wpAny_bind (KB.item (KB.itE (KB.itE (KB.itE h2 hs_1.extBut D.i2z) hs_2.extBut D.i12.symm) hs_3.extBut D.TOi2.symm)
    (KB.sqE (KB.sqE (KB.sqE hl2 hs_1.extBut D.l2z) hs_2.extBut D.l2i1) hs_3.extBut D.l2TO) hy fun m4 h2_4 hs_4 => wpAny_pure ?_)
  have hTO_4 : IsPair m4 TO x b := hs_4.extBut _ _ D.TOi2 hTO_3
  refine wpAny_bind (wpAny_seqItems hTO_4 rfl ?_)
  refine wpAny_bind (wpAny_updateSeq_pair hTO_4 fun m5 hTO_5 hs_5 => ?_)
  replace hTO_5 : IsPair m5 TO x y := hTO_5
  refine wpAny_bind (wpAny_letGo (wpAny_pure (wpAny_pure ?_)))
  refine wpAny_bind (wpAny_seqItems hTO_5 rfl ?_)
  refine wpAny_bind (wpAny_newTuple ?_)
  have hsz : m5.objs.size = s.heap.objs.size := by rw [hs_5.1, hs_4.1, hs_3.1, hs_2.1, hs_1.1]
  have hz_5 : IsZip m5 z TI TO .ellipsis := hs_5.extBut _ _ D.TOz.symm (hs_4.extBut _ _ D.i2z.symm (hs_3.extBut _ _ D.TOz.symm (hs_2.extBut _ _ D.i1z.symm hz_1)))
  have hk_5 : ∀ c o, c ≠ z → c ≠ TO → c ≠ i1 → c ≠ i2 → s.heap.get? c = some o → m5.get? c = some o := fun c o c1 c2 c3 c4 e =>
    hs_5.extBut _ _ c2 (hs_4.extBut _ _ c4 (hs_3.extBut _ _ c2 (hs_2.extBut _ _ c3 (hs_1.extBut _ _ c1 e))))
  have h1_5 : KA.It m5 i1 l1 (k1 + 1) := KA.itE (KA.itE (KA.itE h1_2 hs_3.extBut D.TOi1.symm) hs_4.extBut D.i12) hs_5.extBut D.TOi1.symm
  have h2_5 : KB.It m5 i2 l2 (k2 + 1) := KB.itE h2_4 hs_5.extBut D.TOi2.symm
  have hzlt : z < m5.objs.size := Heap.lt_size hz_5
  have hTOlt : TO < m5.objs.size := Heap.lt_size hTO_5
  have hi1lt : i1 < m5.objs.size := KA.lt h1_5
  have hi2lt : i2 < m5.objs.size := KB.lt h2_5
  show wpAny _ _ (Builtin.SmallTypes.ownedTupleHandOut (.ref z) (.ref m5.objs.size) >>= _) _ _ _
  refine wpAny_bind ?_
  unfold Builtin.SmallTypes.ownedTupleHandOut
  have hz_6 : IsZip (m5.push { cls := .type "tuple", data := .seq #[x, y] }) z TI TO .ellipsis := Heap.get?_push_of_some _ hz_5
  refine wpAny_bind (wpAny_setField_rec hz_6 (by simp) fun m7 hz_7 hs_7 => ?_)
  replace hz_7 : IsZip m7 z TI TO (rawInt m5.objs.size) := hz_7
  refine wpAny_setField_rec hz_7 (by simp) fun m8 hz_8 hs_8 => ?_
  replace hz_8 : IsZip m8 z TI TO (rawInt m5.objs.size) := hz_8
  have up : ∀ c o, c ≠ z → m5.get? c = some o → m8.get? c = some o := fun c o c1 e => hs_8.extBut _ _ c1 (hs_7.extBut _ _ c1 (Heap.get?_push_of_some _ e))
  have hT_8 : IsPair m8 m5.objs.size x y := hs_8.extBut _ _ (Nat.ne_of_gt hzlt) (hs_7.extBut _ _ (Nat.ne_of_gt hzlt) (Heap.get?_push_size _ rfl))
  have hz8 : m8.objs.size = m5.objs.size + 1 := by rw [hs_8.1, hs_7.1, Heap.size_push]
  rw [hsz] at hz_8 hT_8 hz8
  refine wpAny_pure ⟨_, rfl, ?_⟩
  show Q (.ref m5.objs.size) _
  rw [hsz]
  exact hQ m8 hz_8 (up _ _ D.TOz hTO_5) (KA.itA h1_5 fun o e => up _ o D.i1z e) (KB.itA h2_5 fun o e => up _ o D.i2z e) hT_8 hz8 fun c o c1 c2 c3 c4 e => up c o c1 (hk_5 c o c1 c2 c3 c4 e)
theorem zg_end {z TI TO i1 i2 l1 l2 : Addr} {k1 k2 : Nat} {xs ys : Array Value} {a b : Value} {Q : Fin → Shared → Prop} (hh : A.handled = none) (D : ZipApart z TI TO i1 i2 l1 l2)
    (hz : IsZip s.heap z TI TO .none) (hTI : IsPair s.heap TI (.ref i1) (.ref i2)) (hTO : IsPair s.heap TO a b)
    (h1 : KA.It s.heap i1 l1 k1) (h2 : KB.It s.heap i2 l2 k2) (hl1 : KA.Sq s.heap l1 xs) (hl2 : KB.Sq s.heap l2 ys) (hend : xs[k1]? = none ∨ ys[k2]? = none)
    (hE : ∀ h' e, (∀ c o, c ≠ z → c ≠ TO → c ≠ i1 → c ≠ i2 → s.heap.get? c = some o → h'.get? c = some o) → (∃ o, h'.get? e = some o ∧ o.cls = .type "StopIteration") → E (.ref e) { s with heap := h' }) :
    wpAny (model prog w) A (Builtin.«zip.__next__» ⟨[.ref z], []⟩) Q E s := by
  show wpAny _ _ (field (.ref z) 2 >>= _) _ _ _
  refine wpAny_bind (wpAny_field hz rfl (x := .bool false) rfl ?_)
  show wpAny _ _ (field (.ref z) 3 >>= _) _ _ _
  refine wpAny_bind (wpAny_field hz rfl (x := .ref TI) rfl ?_)
  refine wpAny_bind (wpAny_seqItems hTI rfl ?_)
  show wpAny _ _ (Builtin.SmallTypes.ownedTupleIsFree (.ref z) >>= _) _ _ _
  refine wpAny_bind ?_; unfold Builtin.SmallTypes.ownedTupleIsFree
  refine wpAny_bind (wpAny_field hz rfl (x := .none) rfl (wpAny_pure ?_))
  simp only [if_true]
  refine wpAny_bind (wpAny_rule ?_)
  refine wpAny_bind (wpAny_field hz rfl (x := .ref TO) rfl ?_)
  refine wpAny_bind (wpAny_setField_rec hz (by simp) fun m1 hz_1 hs_1 => ?_)
  replace hz_1 : IsZip m1 z TI TO .ellipsis := hz_1
  refine wpAny_bind ?_
  simp only [List.zipIdx_cons, List.zipIdx_nil, List.forIn_cons, List.forIn_nil]
  refine wpAny_bind (wpAny_bind (wpAny_onRaise ?_))
  show wpAny _ _ (Builtin.SmallTypes.nextOf (.ref i1) >>= _) _ _ _
  cases hx : xs[k1]? with
  | none =>
    refine wpAny_bind (KA.fin hh (KA.itE h1 hs_1.extBut D.i1z) (KA.sqE hl1 hs_1.extBut D.l1z) hx fun m2 e hs_2 he => ?_)
    obtain ⟨oe, hoe, hce⟩ := he
    have hz_2 : IsZip m2 z TI TO .ellipsis := hs_2 _ _ D.i1z.symm hz_1
    have hez : e ≠ z := fun x => by subst x; rw [hz_2] at hoe; cases hoe; simp at hce
    refine wpAny_setField_rec hz_2 (by simp) fun m3 _ hs_3 => hE m3 e (fun c o c1 _ c3 _ x => hs_3.extBut _ _ c1 (hs_2 _ _ c3 (hs_1.extBut _ _ c1 x))) ⟨oe, hs_3.extBut _ _ hez hoe, hce⟩
  | some x =>
    have hy : ys[k2]? = none := by rcases hend with h | h; rw [hx] at h; cases h; exact h
    refine wpAny_bind (KA.item (KA.itE h1 hs_1.extBut D.i1z) (KA.sqE hl1 hs_1.extBut D.l1z) hx fun m2 h1_2 hs_2 => wpAny_pure ?_)
    have hTO_2 : IsPair m2 TO a b := hs_2.extBut _ _ D.TOi1 (hs_1.extBut _ _ D.TOz hTO)
    refine wpAny_bind (wpAny_seqItems hTO_2 rfl ?_)
    refine wpAny_bind (wpAny_updateSeq_pair hTO_2 fun m3 hTO_3 hs_3 => ?_)
    refine wpAny_bind (wpAny_letGo (wpAny_pure ?_))
    refine wpAny_bind (wpAny_bind (wpAny_onRaise ?_))
    show wpAny _ _ (Builtin.SmallTypes.nextOf (.ref i2) >>= _) _ _ _
    refine wpAny_bind (KB.fin hh (KB.itE (KB.itE (KB.itE h2 hs_1.extBut D.i2z) hs_2.extBut D.i12.symm) hs_3.extBut D.TOi2.symm)
      (KB.sqE (KB.sqE (KB.sqE hl2 hs_1.extBut D.l2z) hs_2.extBut D.l2i1) hs_3.extBut D.l2TO) hy fun m4 e hs_4 he => ?_)
    obtain ⟨oe, hoe, hce⟩ := he
    have hz_4 : IsZip m4 z TI TO .ellipsis := hs_4 _ _ D.i2z.symm (hs_3.extBut _ _ D.TOz.symm (hs_2.extBut _ _ D.i1z.symm hz_1))
    have hez : e ≠ z := fun x => by subst x; rw [hz_4] at hoe; cases hoe; simp at hce
    refine wpAny_setField_rec hz_4 (by simp) fun m5 _ hs_5 => hE m5 e (fun c o c1 c2 c3 c4 x => hs_5.extBut _ _ c1 (hs_4 _ _ c4 (hs_3.extBut _ _ c2 (hs_2.extBut _ _ c3 (hs_1.extBut _ _ c1 x))))) ⟨oe, hs_5.extBut _ _ hez hoe, hce⟩
theorem zg_next {z TI TO i1 i2 l1 l2 : Addr} {k1 k2 : Nat} {xs ys : Array Value} {x y a b : Value} {Q : Option Value → Shared → Prop} (D : ZipApart z TI TO i1 i2 l1 l2)
    (hz : IsZip s.heap z TI TO .none) (hTI : IsPair s.heap TI (.ref i1) (.ref i2)) (hTO : IsPair s.heap TO a b)
    (h1 : KA.It s.heap i1 l1 k1) (h2 : KB.It s.heap i2 l2 k2) (hl1 : KA.Sq s.heap l1 xs) (hl2 : KB.Sq s.heap l2 ys) (hx : xs[k1]? = some x) (hy : ys[k2]? = some y)
    (hQ : ∀ h', IsZip h' z TI TO (rawInt s.heap.objs.size) → IsPair h' TO x y → KA.It h' i1 l1 (k1 + 1) → KB.It h' i2 l2 (k2 + 1) → IsPair h' s.heap.objs.size x y → h'.objs.size = s.heap.objs.size + 1 →
      (∀ c o, c ≠ z → c ≠ TO → c ≠ i1 → c ≠ i2 → s.heap.get? c = some o → h'.get? c = some o) → Q (some (.ref s.heap.objs.size)) { s with heap := h' }) :
    wpAny (model prog w) A (pyNext (.ref z)) Q E s := by
  have hT : s.TypeIs (.ref z) "zip" := ⟨_, hz, rfl⟩
  unfold pyNext
  exact wpAny_bind (wpAny_attempt (wpAny_callSpecial?_slot (name := Str.ofString "__next__") hT F.slot_zip_next
    (wpAny_call_entry F.slot_zip_next hT F.entry_zip_next
      (zg_item D hz hTI hTO h1 h2 hl1 hl2 hx hy fun h' a1 a2 a3 a4 a5 a6 a7 => wpAny_pure (hQ h' a1 a2 a3 a4 a5 a6 a7)) (F.args_zip_next_1 _))))
theorem zg_stop {z TI TO i1 i2 l1 l2 : Addr} {k1 k2 : Nat} {xs ys : Array Value} {a b : Value} {Q : Option Value → Shared → Prop} (hh : A.handled = none) (D : ZipApart z TI TO i1 i2 l1 l2)
    (hz : IsZip s.heap z TI TO .none) (hTI : IsPair s.heap TI (.ref i1) (.ref i2)) (hTO : IsPair s.heap TO a b)
    (h1 : KA.It s.heap i1 l1 k1) (h2 : KB.It s.heap i2 l2 k2) (hl1 : KA.Sq s.heap l1 xs) (hl2 : KB.Sq s.heap l2 ys) (hend : xs[k1]? = none ∨ ys[k2]? = none)
    (hQ : ∀ h', (∀ c o, c ≠ z → c ≠ TO → c ≠ i1 → c ≠ i2 → s.heap.get? c = some o → h'.get? c = some o) → Q none { s with heap := h' }) : wpAny (model prog w) A (pyNext (.ref z)) Q E s := by
  have hT : s.TypeIs (.ref z) "zip" := ⟨_, hz, rfl⟩
  unfold pyNext
  refine wpAny_bind (wpAny_attempt (wpAny_callSpecial?_slot (name := Str.ofString "__next__") hT F.slot_zip_next
    (wpAny_call_entry F.slot_zip_next hT F.entry_zip_next (zg_end hh D hz hTI hTO h1 h2 hl1 hl2 hend fun h' e hk he => ?_) (F.args_zip_next_1 _))))
  obtain ⟨o, ho, hc⟩ := he
  refine wpAny_bind (wpAny_isInstance (T := "StopIteration") (b := true) ⟨o, ho, hc⟩ isSubtype_stop ?_)
  exact wpAny_pure (hQ _ hk)
end
abbrev zgH1 (h : Heap) (l1 : Addr) : Heap := h.push { cls := .type "list_iterator", data := .fields #[.ref l1, .int 0 0] }
abbrev zgH2 (h : Heap) (l1 l2 : Addr) : Heap := (zgH1 h l1).push { cls := .type "tuple_iterator", data := .fields #[.ref l2, .int 0 0] }
abbrev zgH3 (h : Heap) (l1 l2 : Addr) : Heap := (zgH2 h l1 l2).push { cls := .type "tuple", data := .seq #[.ref h.objs.size, .ref (zgH1 h l1).objs.size] }
abbrev zgH4 (h : Heap) (l1 l2 : Addr) : Heap := (zgH3 h l1 l2).push { cls := .type "tuple", data := .seq #[.none, .none] }
abbrev zgH5 (h : Heap) (l1 l2 : Addr) : Heap := (zgH4 h l1 l2).push { cls := .type "zip", data := .fields #[.none, .bool false, .bool false, .ref (zgH2 h l1 l2).objs.size, .ref (zgH3 h l1 l2).objs.size] }

theorem zg_new (l1 l2 : Addr) (xs ys : Array Value) :
    Meets (Builtin.«zip.__new__» ⟨[.type "zip", .ref l1, .ref l2], []⟩) (fun _ R s => s.heap.IsList l1 xs ∧ s.heap.IsTuple l2 ys ∧
      R (.ok (.ret (.ref (zgH4 s.heap l1 l2).objs.size))) { s with heap := zgH5 s.heap l1 l2 }) :=
  .of_wp fun prog w A R s h => by
    obtain ⟨hp, g, d, tk, os⟩ := s; obtain ⟨hl1, hl2, h⟩ := h
    have hsub := sub_zip
    have hL1 : Heap.IsList (Shared.heap ⟨hp, g, d, tk, os⟩) l1 xs := hl1
    have hL2 : Heap.IsTuple (Shared.heap ⟨hp.push { cls := .type "list_iterator", data := .fields #[.ref l1, .int 0 0] }, g, d, tk, os⟩) l2 ys := Heap.IsTuple.push hl2 _
    wp_walk using wpAny_pyIter_list hL1, wpAny_pyIter_tuple hL2
    exact ⟨_, rfl, h⟩

section
variable {prog : Program} {w : World} {A : Around} {E : Value → Shared → Prop} {s : Shared}

theorem zg_call {l1 l2 : Addr} {xs ys : Array Value} {Q : Value → Shared → Prop} (hl1 : s.heap.IsList l1 xs) (hl2 : s.heap.IsTuple l2 ys)
    (h : ∀ h', IsZip h' (s.heap.objs.size + 4) (s.heap.objs.size + 2) (s.heap.objs.size + 3) .none → IsPair h' (s.heap.objs.size + 2) (.ref s.heap.objs.size) (.ref (s.heap.objs.size + 1)) →
      IsPair h' (s.heap.objs.size + 3) .none .none → h'.IsListIter s.heap.objs.size l1 0 → h'.IsTupleIter (s.heap.objs.size + 1) l2 0 → h'.objs.size = s.heap.objs.size + 5 →
      (∀ c o, s.heap.get? c = some o → h'.get? c = some o) → Q (.ref (s.heap.objs.size + 4)) { s with heap := h' }) :
    wpAny (model prog w) A (call (.type "zip") [.ref l1, .ref l2]) Q E s := by
  refine callType_new F.called_zip (by decide) (F.typeCall_zip_2 _ _) (F.newCall_zip_2 _ _) (fun obj => F.args_object_init_3 obj _ _) F.entry_zip_new
    (zg_new l1 l2 xs ys) ⟨hl1, hl2, ?_⟩
  have z1 : (zgH1 s.heap l1).objs.size = s.heap.objs.size + 1 := Heap.size_push ..
  have z2 : (zgH2 s.heap l1 l2).objs.size = s.heap.objs.size + 2 := by rw [Heap.size_push, z1]
  have z3 : (zgH3 s.heap l1 l2).objs.size = s.heap.objs.size + 3 := by rw [Heap.size_push, z2]
  have z4 : (zgH4 s.heap l1 l2).objs.size = s.heap.objs.size + 4 := by rw [Heap.size_push, z3]
  have z5 : (zgH5 s.heap l1 l2).objs.size = s.heap.objs.size + 5 := by rw [Heap.size_push, z4]
  have g5 : (zgH5 s.heap l1 l2).get? (zgH4 s.heap l1 l2).objs.size = some _ := Heap.get?_push_size _ rfl
  have g4 : (zgH5 s.heap l1 l2).get? (zgH3 s.heap l1 l2).objs.size = some _ := Heap.get?_push_of_some _ (Heap.get?_push_size _ rfl)
  have g3 : (zgH5 s.heap l1 l2).get? (zgH2 s.heap l1 l2).objs.size = some _ := Heap.get?_push_of_some _ (Heap.get?_push_of_some _ (Heap.get?_push_size _ rfl))
  have g2 : (zgH5 s.heap l1 l2).get? (zgH1 s.heap l1).objs.size = some _ := Heap.get?_push_of_some _ (Heap.get?_push_of_some _ (Heap.get?_push_of_some _ (Heap.get?_push_size _ rfl)))
  have g1 : (zgH5 s.heap l1 l2).get? s.heap.objs.size = some _ := Heap.get?_push_of_some _ (Heap.get?_push_of_some _ (Heap.get?_push_of_some _ (Heap.get?_push_of_some _ (Heap.get?_push_size _ rfl))))
  show _ ∧ _
  rw [z2, z3, z4] at g5
  rw [z1, z2] at g3
  rw [z3] at g4
  rw [z1] at g2
  rw [z4]
  exact ⟨⟨_, g5, rfl⟩, h _ g5 g3 g4 ⟨_, g1, rfl, rfl⟩ ⟨_, g2, rfl, rfl⟩ z5 fun c o x =>
    Heap.get?_push_of_some _ (Heap.get?_push_of_some _ (Heap.get?_push_of_some _ (Heap.get?_push_of_some _ (Heap.get?_push_of_some _ x))))⟩
end
open L2
/-- a list's and a tuple's items, in new pairs, as both stand at each turn -/
def ItzM (K : PySem.W.Frag) (a b : Addr) : It :=
  ⟨fun i H => ∃ (xs ys : List V) (x y : V), SqL K H a xs ∧ SqT K H b ys ∧ xs[i]? = some x ∧ ys[i]? = some y,
    fun i H v H' => ∃ T x y, v = .ref T ∧ H T = none ∧ H' = upd H T (.tup [x, y]) ∧ (∀ xs, SqL K H a xs → xs[i]? = some x) ∧ ∀ ys, SqT K H b ys → ys[i]? = some y,
    fun i H => ∃ xs ys : List V, SqL K H a xs ∧ SqT K H b ys ∧ (xs.length ≤ i ∨ ys.length ≤ i)⟩
theorem turn_zipM {P : Program} {w : World} {K : PySem.W.Frag} {elts : List Expr} {kk : Nat} {tpos : Pos} {a b z TI TO i1 i2 : Addr} (D : ZipApart z TI TO i1 i2 a b) :
    Turn P w K (.Tuple elts kk tpos) (ItzM K a b) [z, TI, TO, i1, i2] z (fun i h => IsZip h z TI TO .none ∧ IsPair h TI (.ref i1) (.ref i2) ∧ (∃ x y, IsPair h TO x y) ∧ h.IsListIter i1 a i ∧ h.IsTupleIter i2 b i) where
  mem := by simp
  obj := fun i h st c hc => by
    obtain ⟨hz, hTI, ⟨x, y, hTO⟩, ⟨o1, e1, _, d1⟩, ⟨o2, e2, _, d2⟩⟩ := st
    have e' : c = z ∨ c = TI ∨ c = TO ∨ c = i1 ∨ c = i2 := by simpa using hc
    rcases e' with q | q | q | q | q
    · rw [q]; exact ⟨_, hz, fun v q => nomatch q⟩
    · rw [q]; exact ⟨_, hTI, fun v q => nomatch q⟩
    · rw [q]; exact ⟨_, hTO, fun v q => nomatch q⟩
    · rw [q]; exact ⟨o1, e1, fun v q => by rw [d1] at q; cases q⟩
    · rw [q]; exact ⟨o2, e2, fun v q => by rw [d2] at q; cases q⟩
  keep := fun i h h' st k => by
    obtain ⟨hz, hTI, ⟨x, y, hTO⟩, h1, h2⟩ := st
    exact ⟨k z (by simp) _ hz, k TI (by simp) _ hTI, ⟨x, y, k TO (by simp) _ hTO⟩, h1.at fun o q => k i1 (by simp) o q, h2.at fun o q => k i2 (by simp) o q⟩
  item := by
    intro X hP hw hK hc i pins s σ H E I hf st hg
    subst hP hw hK
    obtain ⟨hz, hTI, ⟨x0, y0, hTO⟩, h1, h2⟩ := st
    obtain ⟨xs, ys, x, y, hqx, hqy, hx, hy⟩ := hg
    obtain ⟨its, rv, p, _⟩ := I.list hqx
    obtain ⟨its2, rv2, p2, _⟩ := I.tuple hqy
    obtain ⟨u, hu, ru⟩ := rv.get hx
    obtain ⟨u2, hu2, ru2⟩ := rv2.get hy
    have hzl : z < s.heap.objs.size := Heap.lt_size hz
    refine zg_next (KA := lstK) (KB := tupK) D hz hTI hTO h1 h2 p.isList p2 (x := u) (y := u2) (by simpa using hu) (by simpa using hu2) fun h' z' TO' h1' h2' hT hsz hk => ?_
    refine ⟨_, rfl, wpAny_letOwnedTupleGo_zip (s := { s with heap := h' }) z' fun h'' z'' sb => ?_⟩
    have hT2 : h''.get? s.heap.objs.size = some { cls := .type "tuple", data := .seq #[u, u2] } := (sb.2 _ (Nat.ne_of_gt hzl)).trans hT
    have new : ObjOk X.prog X.w (upd H s.heap.objs.size (.tup [x, y])) h'' s.heap.objs.size (.tup [x, y]) :=
      ⟨by show 2 ≤ sizeLine; decide, [u, u2], .cons ru (.cons ru2 .nil), ⟨_, hT2, rfl, _, rfl⟩⟩
    have I1 : Inv X pins σ (upd H s.heap.objs.size (.tup [x, y])) { s with heap := h'' } :=
      I.turnedNew (t' := s.toks) (ch := [z, TI, TO, i1, i2]) (fun c o hb q => (sb.2 c (fun q' => hb (by simp [q']))).trans (hk c o (fun q' => hb (by simp [q'])) (fun q' => hb (by simp [q'])) (fun q' => hb (by simp [q'])) (fun q' => hb (by simp [q'])) q)) hf (Nat.le_refl _) new
    refine ⟨.ref s.heap.objs.size, _, I1, rfl, ⟨_, x, y, rfl, I.hok.fresh (Nat.le_refl _), rfl, fun l hl => by rw [I.list_inj hl hqx]; exact hx, fun l hl => by rw [I.tuple_inj hl hqy]; exact hy⟩, ⟨z'', ?_, ⟨u, u2, ?_⟩, ?_, ?_⟩, fun c hcm => ?_⟩
    · exact (sb.2 _ D.TIz).trans (hk _ _ D.TIz D.TITO D.TIi1 D.TIi2 hTI)
    · exact (sb.2 _ D.TOz).trans TO'
    · exact h1'.at fun o q => (sb.2 _ D.i1z).trans q
    · exact h2'.at fun o q => (sb.2 _ D.i2z).trans q
    · have hlt : c < s.heap.objs.size := by
        have e' : c = z ∨ c = TI ∨ c = TO ∨ c = i1 ∨ c = i2 := by simpa using hcm
        rcases e' with q | q | q | q | q
        · rw [q]; exact hzl
        · rw [q]; exact Heap.lt_size hTI
        · rw [q]; exact Heap.lt_size hTO
        · rw [q]; obtain ⟨_, e1, _⟩ := h1; exact Heap.lt_size e1
        · rw [q]; obtain ⟨_, e2, _⟩ := h2; exact Heap.lt_size e2
      rw [upd_ne (Nat.ne_of_lt hlt)]
      exact (hf c hcm).1
  done := by
    intro X hP hw hK hc i pins s σ H E I hf st hg
    subst hP hw hK
    obtain ⟨hz, hTI, ⟨x0, y0, hTO⟩, h1, h2⟩ := st
    obtain ⟨xs, ys, hqx, hqy, hend⟩ := hg
    obtain ⟨its, rv, p, _⟩ := I.list hqx
    obtain ⟨its2, rv2, p2, _⟩ := I.tuple hqy
    have l1 := rv.length
    have l2 := rv2.length
    have he : its.toArray[i]? = none ∨ its2.toArray[i]? = none := by
      rcases hend with q | q
      · exact .inl (by simp; omega)
      · exact .inr (by simp; omega)
    exact zg_stop (KA := lstK) (KB := tupK) (I.ok.hd hc) D hz hTI hTO h1 h2 p.isList p2 he fun h' hk => ⟨rfl, I.turnedL (t' := s.toks) (ch := [z, TI, TO, i1, i2]) (fun c o hb q =>
      hk c o (fun q' => hb (by simp [q'])) (fun q' => hb (by simp [q'])) (fun q' => hb (by simp [q'])) (fun q' => hb (by simp [q'])) q) hf⟩
  self := fun A i s Q E st h => wpAny_pyIter_zip st.1 h

def iZipM (K : PySem.W.Frag) (ta : TA) : TI := fun σ H R => ta σ H fun vs H1 => ∃ a b xs ys, vs = [.ref a, .ref b] ∧ SqL K H1 a xs ∧ SqT K H1 b ys ∧ R (ItzM K a b) H1
theorem pi_zipM {X : Cx} {e e2 : Expr} {ta : TA} {p pos tpos : Pos} {elts : List Expr} {kk : Nat} (hg : Gl X "zip") (hm : X.mg "zip" = none) (ha : PA X [e, e2] ta)
    (hs : starEach [e, e2] X.env = (false, eval e X.env) :: starEach [e2] X.env := by rfl) (hpl : (backTo pos (starEach [e2] X.env)).any (·.1) = false := by rfl) :
    PI X (.Tuple elts kk tpos) (.Call (.Name "zip" p) [e, e2] [] pos) (iZipM X.K ta) := by
  refine ⟨fun pins s σ H R I h => ?_⟩
  refine Call_ (ld_blt I hg hm PyProof.Rows.boot_zip (PyProof.Rows.callWith_type1 (thn (ha.run pos pins s σ H _ I h) fun us s1 ⟨vs, H1, I1, r1, q1⟩ => ?_) hs hpl))
  obtain ⟨a, b, xs, ys, ex, q1⟩ := q1
  subst ex
  cases r1 with
  | cons r rr =>
    cases rr with
    | cons r' rr =>
      cases rr
      cases r
      cases r'
      have fresh5 : ∀ c, c ∈ [s1.heap.objs.size + 4, s1.heap.objs.size + 2, s1.heap.objs.size + 3, s1.heap.objs.size, s1.heap.objs.size + 1] → FpOk X pins H1 c := fun c hcm => by
        have e' : c = s1.heap.objs.size + 4 ∨ c = s1.heap.objs.size + 2 ∨ c = s1.heap.objs.size + 3 ∨ c = s1.heap.objs.size ∨ c = s1.heap.objs.size + 1 := by simpa using hcm
        have hle : s1.heap.objs.size ≤ c := by
          rcases e' with z | z | z | z | z
          · rw [z]; exact Nat.le_add_right _ _
          · rw [z]; exact Nat.le_add_right _ _
          · rw [z]; exact Nat.le_add_right _ _
          · rw [z]; exact Nat.le_refl _
          · rw [z]; exact Nat.le_add_right _ _
        exact I1.fpOk hle (I1.hok.fresh hle)
      obtain ⟨hqx, hqy, q⟩ := q1
      obtain ⟨its, rv, p1, _⟩ := I1.list hqx
      obtain ⟨its2, rv2, p2, _⟩ := I1.tuple hqy
      obtain ⟨o2, ho2, _⟩ := id p2
      refine zg_call p1.isList (show s1.heap.IsTuple b its2.toArray from p2) fun h' hz hTI hTO h1 h2 hsz hk => wpAny_pyIter_zip hz ?_
      have I2 : Inv X pins σ H1 { s1 with heap := h' } := I1.kept (t' := s1.toks) hk
      exact ⟨s1.heap.objs.size + 4, [s1.heap.objs.size + 4, s1.heap.objs.size + 2, s1.heap.objs.size + 3, s1.heap.objs.size, s1.heap.objs.size + 1], _, _, H1, rfl, I2, turn_zipM (PySem.W.ktu_apart s1.heap.objs.size a b p1.lt (Heap.lt_size ho2)), ⟨hz, hTI, ⟨_, _, hTO⟩, h1, h2⟩, fresh5, q⟩
end Z
/-! ## enumerate over a text, ahead of the hand layer -/
namespace EnS
open PySem PySem.Spec L2
open PyProof.Rows hiding St
/-- a text's signs, each in a new pair with its place -/
def IteS (x : Str) : It :=
  ⟨fun i _ => i < x.cps.size, fun i H v H' => ∃ T c, v = .ref T ∧ H T = none ∧ H' = upd H T (.tup [.int (i : Nat), .str ⟨#[c]⟩]) ∧ x.cps[i]? = some c, fun i _ => i = x.cps.size⟩
abbrev isS (k : String) (it : Addr) (x : Str) (t : Tok) (i : Nat) (h : Heap) : Prop := h.IsStrIter it k x t i
theorem turn_enS {P : Program} {w : World} {K : PySem.W.Frag} {elts : List Expr} {kk : Nat} {tpos : Pos} (x : Str) (t : Tok) (e it : Addr) (kind : String)
    (D : ∀ {A : Around}, A.handled = none → Draws P w A it [it] x.cps.size (fun i v => ∃ c u, x.cps[i]? = some c ∧ v = .str ⟨#[c]⟩ u) (isS kind it x t)) :
    Turn P w K (.Tuple elts kk tpos) (IteS x) [e, it] e (fun i h => (∃ old, IsEnum h e it ((i : Nat) : Int) old) ∧ h.IsStrIter it kind x t i ∧ e ≠ it) where
  mem := by simp
  obj := fun i h ⟨⟨_, he⟩, ⟨o, ho, _, hd⟩, _⟩ b hb => by
    rcases (show b = e ∨ b = it by simpa using hb) with z | z
    · rw [z]; exact ⟨_, he, fun v q => nomatch q⟩
    · rw [z]; exact ⟨o, ho, fun v q => by rw [hd] at q; cases q⟩
  keep := fun i h h' ⟨⟨old, he⟩, ⟨o, ho, r⟩, hne⟩ k => ⟨⟨old, k e (by simp) _ he⟩, ⟨o, k it (by simp) o ho, r⟩, hne⟩
  item := by
    intro X hP hw hK hc i pins s σ H E I hf ⟨⟨old, he⟩, hit, hne⟩ hi
    subst hP hw hK
    have hel : e < s.heap.objs.size := Heap.lt_size he
    have hil : it < s.heap.objs.size := by obtain ⟨_, q, _⟩ := hit; exact Heap.lt_size q
    refine wpAny_pyNext_enum_itemD (D (A := X.A.in1) (I.ok.hd hc)) he hit hi hne (by simpa using hne) fun v h' tk hv ho hit' hT hsz hk => ?_
    obtain ⟨c, u, hcp, hv2⟩ := hv
    subst hv2
    refine ⟨_, rfl, wpAny_letOwnedTupleGo_enum (s := { s with heap := h', toks := tk + 1 }) ho fun h2 he' sb => ?_⟩
    have hT2 : h2.get? s.heap.objs.size = some { cls := .type "tuple", data := .seq #[.int i tk, .str ⟨#[c]⟩ u] } := (sb.2 _ (Nat.ne_of_gt hel)).trans hT
    have I1 : Inv X pins σ (upd H s.heap.objs.size (.tup [.int (i : Nat), .str ⟨#[c]⟩])) { s with heap := h2, toks := tk + 1 } :=
      I.turnedNew (ch := [e, it]) (fun b ob hb q => (sb.2 b (fun z => hb (by simp [z]))).trans (hk b ob (fun z => hb (by simp [z])) (fun z => hb (by simp [z])) q)) hf (Nat.le_refl _)
        ⟨by show 2 ≤ sizeLine; decide, [.int i tk, .str ⟨#[c]⟩ u], .cons ⟨tk, rfl⟩ (.cons ⟨u, rfl⟩ .nil), ⟨_, hT2, rfl, _, rfl⟩⟩
    refine ⟨.ref s.heap.objs.size, _, I1, rfl, ⟨_, c, rfl, I.hok.fresh (Nat.le_refl _), rfl, hcp⟩, ⟨⟨.str ⟨#[c]⟩ u, ?_⟩, ?_, hne⟩, fun b hb => ?_⟩
    · rw [show ((i + 1 : Nat) : Int) = (i : Int) + 1 by omega]; exact he'
    · obtain ⟨o, q, r⟩ := hit'
      exact ⟨o, (sb.2 it (Ne.symm hne)).trans q, r⟩
    · have hb' : b < s.heap.objs.size := by
        rcases (show b = e ∨ b = it by simpa using hb) with z | z
        · rw [z]; exact hel
        · rw [z]; exact hil
      rw [upd_ne (Nat.ne_of_lt hb')]
      exact (hf b hb).1
  done := by
    intro X hP hw hK hc i pins s σ H E I hf ⟨⟨old, he⟩, hit, hne⟩ hx
    subst hP hw hK
    have hx : i = x.cps.size := hx
    subst hx
    obtain ⟨f0, f1, f2, f3, f4, f5⟩ := hf it (by simp)
    exact wpAny_pyNext_enum_endD (D (A := X.A.in1) (I.ok.hd hc)) he hit fun h' eb => ⟨rfl, I.turned (t' := s.toks) (fun b o hb q => eb b o hb q) f0 f1 f3 f4 f5⟩
  self := fun A i s Q E ⟨⟨_, he⟩, _⟩ h => wpAny_pyIter_enum he h
def iEnS (ta : TA) : TI := fun σ H R => ta σ H fun vs H1 => ∃ x, vs = [.str x] ∧ R (IteS x) H1
theorem pi_enS {X : Cx} {e : Expr} {ta : TA} {p pos tpos : Pos} {elts : List Expr} {kk : Nat} (hg : Gl X "enumerate") (hm : X.mg "enumerate" = none) (ha : PA X [e] ta) (hs : starEach [e] X.env = [(false, eval e X.env)]) :
    PI X (.Tuple elts kk tpos) (.Call (.Name "enumerate" p) [e] [] pos) (iEnS ta) := by
  refine ⟨fun pins s σ H R I h => ?_⟩
  refine Call_ (ld_blt I hg hm boot_enumerate (PyProof.Rows.callWith_type1 (thn (ha.run pos pins s σ H _ I h) fun us s1 ⟨vs, H1, I1, r1, x, ex, q⟩ => ?_) hs rfl))
  subst ex
  cases r1 with
  | cons r rr =>
    cases rr
    obtain ⟨t, rfl⟩ := r
    have fp : ∀ b ∈ [s1.heap.objs.size + 1, s1.heap.objs.size], s1.heap.objs.size ≤ b := fun b hb => by
      rcases (show b = s1.heap.objs.size + 1 ∨ b = s1.heap.objs.size by simpa using hb) with z | z
      · rw [z]; exact Nat.le_add_right _ _
      · rw [z]; exact Nat.le_refl _
    refine call_enumerate_str fun h' he hit hsz hk => wpAny_pyIter_enum he ?_
    have I2 : Inv X pins σ H1 { s1 with heap := h' } := I1.kept (t' := s1.toks) hk
    have two : strIterType x = "str_ascii_iterator" ∨ strIterType x = "str_iterator" := by
      unfold strIterType
      split <;> simp
    refine ⟨s1.heap.objs.size + 1, [s1.heap.objs.size + 1, s1.heap.objs.size], fun i h => (∃ old, IsEnum h (s1.heap.objs.size + 1) s1.heap.objs.size ((i : Nat) : Int) old) ∧ h.IsStrIter s1.heap.objs.size (strIterType x) x t i ∧ s1.heap.objs.size + 1 ≠ s1.heap.objs.size, _, H1, rfl, I2, ?_, ⟨⟨.none, he⟩, hit, Nat.succ_ne_self _⟩, fun b hb => I1.fpOk (fp b hb) (I1.hok.fresh (fp b hb)), q⟩
    rcases two with k | k
    · exact turn_enS x t _ _ _ (fun hh => by rw [k]; exact Draws.strAscii hh _ x t)
    · exact turn_enS x t _ _ _ (fun hh => by rw [k]; exact Draws.strWide hh _ x t)
end EnS
namespace Z
open PySem PySem.Spec L2
open PyProof.Rows hiding St

/-! ## walks -/
structure WalkD (K : PySem.W.Frag) (J : It) (ds : List D) (Gd : Hp → AS → Prop) : Prop where
  goes : ∀ i H O, i < ds.length → Gd H O → J.go i H
  stops : ∀ H O, Gd H O → J.stop ds.length H
  yields : ∀ i H O x H' d, ds[i]? = some d → Gd H O → (∀ b, O b → ∃ o, H b = some o) → J.yld i H x H' → Grow H H' ∧ Rep K H' O d x
  keeps : ∀ H O H' O', Gd H O → Keeps H O H' O' → Gd H' O'
abbrev MIt := Rho → Option (List D × Rho)
def tIt (X : Cx) (f : MIt) : TI := fun σ H Rr => ∃ c E ρ ds ρ', c.K = X.K ∧ R c E ρ σ H ∧ f ρ = some (ds, ρ') ∧
  ∀ J Gd H', PostN c E ρ σ H ρ' σ H' → WalkD c.K J ds Gd → Gd H' (OE ρ' σ E) → Rr J H'
def signs (s : Str) : List D := s.cps.toList.map fun c => .str ⟨#[c]⟩
def keysD (ds : List (D × D)) : List D := ds.map (·.1)
/-- a list, a tuple, a text; a dict that was just made -/
def iSeq (f : ME) : MIt := fun ρ => (f ρ).bind fun r => match r.1 with
  | .v (.list ds) => some (ds, r.2)
  | .v (.tuple ds) => some (ds, r.2)
  | .v (.str s) => some (signs s, r.2)
  | .o (.list ds) => some (ds, r.2)
  | .o (.dict ds) => some (keysD ds, r.2)
  | _ => none
def in62 (i : Int) : Bool := decide (i.natAbs < 4611686018427387904)
def upTo (lo : Int) (n : Nat) : List D := (List.range n).map fun (i : Nat) => .int (lo + i)
def downFrom (hi : Int) (n : Nat) : List D := (List.range n).map fun (i : Nat) => .int (hi + i * (-1))
def rngD : List D → Option (List D)
  | [.int j] => if in62 j then some (upTo 0 j.toNat) else none
  | [.int i, .int j] => if in62 i && in62 j then some (upTo i (j - i).toNat) else none
  | [.int i, .int j, .int c] => if in62 i && in62 j && decide (c = -1) then some (downFrom i (i - j).toNat) else none
  | _ => none
def enumD (ds : List D) : List D := ds.mapIdx fun i d => .tuple [.int i, d]
def enuA : List D → Option (List D)
  | [.list ds] => some (enumD ds)
  | [.tuple ds] => some (enumD ds)
  | _ => none
def enuS : List D → Option (List D)
  | [.str s] => some (enumD (signs s))
  | _ => none
def enuD : List D → Option (List D)
  | [.list ds] => some (enumD ds)
  | [.tuple ds] => some (enumD ds)
  | [.str s] => some (enumD (signs s))
  | _ => none
theorem enuD_or {xs ds : List D} (h : enuD xs = some ds) : enuA xs = some ds ∨ enuS xs = some ds := by
  unfold enuD at h
  split at h
  · exact .inl h
  · exact .inl h
  · exact .inr h
  · cases h
def zipD : List D → List D → List D
  | x :: xs, y :: ys => .tuple [x, y] :: zipD xs ys
  | _, _ => []
def zpS : List D → Option (List D)
  | [.list ds, .list es] => some (zipD ds es)
  | [.tuple ds, .tuple es] => some (zipD ds es)
  | _ => none
/-- a list and a tuple -/
def zpM : List D → Option (List D)
  | [.list ds, .tuple es] => some (zipD ds es)
  | _ => none
def zpD : List D → Option (List D)
  | [.list ds, .list es] => some (zipD ds es)
  | [.tuple ds, .tuple es] => some (zipD ds es)
  | [.list ds, .tuple es] => some (zipD ds es)
  | _ => none
theorem zpD_or {xs ds : List D} (h : zpD xs = some ds) : zpS xs = some ds ∨ zpM xs = some ds := by
  unfold zpD at h
  split at h
  · exact .inl h
  · exact .inl h
  · exact .inr h
  · cases h
/-- a walk of what a built-in makes of its arguments -/
def iFn (fi : List D → Option (List D)) (fs : MOs) : MIt := fun ρ => (fs ρ).bind fun r => (tvs r.1).bind fun xs => (fi xs).bind fun ds => some (ds, r.2)

section
variable {K : PySem.W.Frag} {a b : Addr} {ds es : List D}
theorem wd_list : WalkD K (Itl K a) ds (fun H O => ∃ vs, LA K H O a vs ∧ Reps K H O ds vs) :=
  ⟨fun i H O hi ⟨vs, l, r⟩ => ⟨vs, vs[i]'(by rw [← r.length]; exact hi), l.sq, List.getElem?_eq_getElem _⟩,
   fun H O ⟨vs, l, r⟩ => ⟨vs, l.sq, by rw [r.length]; exact Nat.le_refl _⟩,
   fun i H O x H' d hd ⟨vs, l, r⟩ _ y => by
    obtain ⟨e, y⟩ := y
    subst e
    obtain ⟨v, h1, h2⟩ := r.get hd
    have := y vs l.sq
    rw [h1] at this; cases this
    exact ⟨Grow.rfl, h2⟩,
   fun H O H' O' ⟨vs, l, r⟩ k => ⟨vs, l.mono k, r.mono k⟩⟩
theorem wd_tup : WalkD K (Itt K a) ds (fun H O => ∃ vs, TAt K H O a vs ∧ Reps K H O ds vs) :=
  ⟨fun i H O hi ⟨vs, l, r⟩ => ⟨vs, vs[i]'(by rw [← r.length]; exact hi), l.sq, List.getElem?_eq_getElem _⟩,
   fun H O ⟨vs, l, r⟩ => ⟨vs, l.sq, by rw [r.length]; exact Nat.le_refl _⟩,
   fun i H O x H' d hd ⟨vs, l, r⟩ _ y => by
    obtain ⟨e, y⟩ := y
    subst e
    obtain ⟨v, h1, h2⟩ := r.get hd
    have := y vs l.sq
    rw [h1] at this; cases this
    exact ⟨Grow.rfl, h2⟩,
   fun H O H' O' ⟨vs, l, r⟩ k => ⟨vs, l.mono k, r.mono k⟩⟩
theorem wd_str {z : Str} (hz : PyData.strOk z = true) : WalkD K (Its z) (signs z) (fun _ _ => True) :=
  ⟨fun i H O hi _ => by show i < z.cps.size; simpa [signs] using hi, fun H O _ => by show z.cps.size ≤ (signs z).length; simp [signs],
   fun i H O x H' d hd _ _ y => by
    obtain ⟨e, c, h1, h2⟩ := y
    subst e
    have hc : z.cps.toList[i]? = some c := by rw [Array.getElem?_toList]; exact h1
    have e2 : (signs z)[i]? = some (.str ⟨#[c]⟩) := by unfold signs; rw [List.getElem?_map, hc]; rfl
    rw [hd] at e2; cases e2
    subst h2
    exact ⟨Grow.rfl, .str _ (strOk_one hz (List.mem_of_getElem? hc))⟩,
   fun _ _ _ _ _ _ => True.intro⟩
theorem wd_range {lo : Int} {n : Nat} : WalkD K (Itr lo n) (upTo lo n) (fun _ _ => True) :=
  ⟨fun i H O hi _ => by show i < n; simpa [upTo] using hi, fun H O _ => by show n ≤ (upTo lo n).length; simp [upTo],
   fun i H O x H' d hd _ _ y => by
    obtain ⟨e, h2⟩ := y
    subst e; subst h2
    have hi : i < n := by have := (List.getElem?_eq_some_iff.mp hd).1; simpa [upTo] using this
    have e2 : (upTo lo n)[i]? = some (.int (lo + i)) := by unfold upTo; rw [List.getElem?_map, List.getElem?_range hi]; rfl
    rw [hd] at e2; cases e2
    exact ⟨Grow.rfl, .int _⟩,
   fun _ _ _ _ _ _ => True.intro⟩
theorem wd_down {hi : Int} {n : Nat} : WalkD K (Itc hi (-1) n) (downFrom hi n) (fun _ _ => True) :=
  ⟨fun i H O h _ => by show i < n; simpa [downFrom] using h, fun H O _ => by show n ≤ (downFrom hi n).length; simp [downFrom],
   fun i H O x H' d hd _ _ y => by
    obtain ⟨e, h2⟩ := y
    subst e; subst h2
    have h : i < n := by have := (List.getElem?_eq_some_iff.mp hd).1; simpa [downFrom] using this
    have e2 : (downFrom hi n)[i]? = some (.int (hi + i * (-1))) := by unfold downFrom; rw [List.getElem?_map, List.getElem?_range h]; rfl
    rw [hd] at e2; cases e2
    exact ⟨Grow.rfl, .int _⟩,
   fun _ _ _ _ _ _ => True.intro⟩
theorem pair_res {H : Hp} {O : AS} {T : Addr} {d e : D} {x y : V} (hO : ∀ b, O b → ∃ o, H b = some o) (n : H T = none) (r1 : Rep K H O d x) (r2 : Rep K H O e y) : Grow H (upd H T (.tup [x, y])) ∧ Rep K (upd H T (.tup [x, y])) O (.tuple [d, e]) (.ref T) :=
  resTup (K := K) hO (.cons r1 (.cons r2 .nil)) n
theorem wd_enum : WalkD K (Ite K a) (enumD ds) (fun H O => ∃ vs, SqL K H a vs ∧ LA K H O a vs ∧ Reps K H O ds vs) :=
  ⟨fun i H O hi ⟨vs, l, _, r⟩ => ⟨vs, vs[i]'(by rw [← r.length]; simpa [enumD] using hi), l, List.getElem?_eq_getElem _⟩,
   fun H O ⟨vs, l, _, r⟩ => ⟨vs, l, by simp [enumD, ← r.length]⟩,
   fun i H O x H' d hd ⟨vs, l, _, r⟩ hO y => by
    obtain ⟨T, v, e1, e2, e3, y⟩ := y
    subst e1; subst e3
    have hq := y vs l
    have hi : i < ds.length := by have := (List.getElem?_eq_some_iff.mp hd).1; simpa [enumD] using this
    have h0 : ds[i]? = some ds[i] := List.getElem?_eq_getElem hi
    obtain ⟨v', h1, h2⟩ := r.get h0
    rw [hq] at h1; cases h1
    have e4 : (enumD ds)[i]? = some (.tuple [.int i, ds[i]]) := by unfold enumD; rw [List.getElem?_mapIdx, h0]; rfl
    rw [hd] at e4; cases e4
    exact pair_res hO e2 (.int _) h2,
   fun H O H' O' ⟨vs, _, l, r⟩ k => ⟨vs, (l.mono k).sq, l.mono k, r.mono k⟩⟩
theorem wd_enumS {z : Str} (hz : PyData.strOk z = true) : WalkD K (EnS.IteS z) (enumD (signs z)) (fun _ _ => True) :=
  ⟨fun i H O hi _ => by show i < z.cps.size; simpa [enumD, signs] using hi, fun H O _ => by show (enumD (signs z)).length = z.cps.size; simp [enumD, signs],
   fun i H O x H' d hd _ hO y => by
    obtain ⟨T, c, e1, e2, e3, h1⟩ := y
    subst e1; subst e3
    have hc : z.cps.toList[i]? = some c := by rw [Array.getElem?_toList]; exact h1
    have h0 : (signs z)[i]? = some (.str ⟨#[c]⟩) := by unfold signs; rw [List.getElem?_map, hc]; rfl
    have e4 : (enumD (signs z))[i]? = some (.tuple [.int i, .str ⟨#[c]⟩]) := by unfold enumD; rw [List.getElem?_mapIdx, h0]; rfl
    rw [hd] at e4; cases e4
    exact pair_res hO e2 (.int _) (.str _ (strOk_one hz (List.mem_of_getElem? hc))),
   fun _ _ _ _ _ _ => True.intro⟩
theorem wd_enumT : WalkD K (EnT.IteT K a) (enumD ds) (fun H O => ∃ vs, SqT K H a vs ∧ TAt K H O a vs ∧ Reps K H O ds vs) :=
  ⟨fun i H O hi ⟨vs, l, _, r⟩ => ⟨vs, vs[i]'(by rw [← r.length]; simpa [enumD] using hi), l, List.getElem?_eq_getElem _⟩,
   fun H O ⟨vs, l, _, r⟩ => ⟨vs, l, by simp [enumD, ← r.length]⟩,
   fun i H O x H' d hd ⟨vs, l, _, r⟩ hO y => by
    obtain ⟨T, v, e1, e2, e3, y⟩ := y
    subst e1; subst e3
    have hq := y vs l
    have hi : i < ds.length := by have := (List.getElem?_eq_some_iff.mp hd).1; simpa [enumD] using this
    have h0 : ds[i]? = some ds[i] := List.getElem?_eq_getElem hi
    obtain ⟨v', h1, h2⟩ := r.get h0
    rw [hq] at h1; cases h1
    have e4 : (enumD ds)[i]? = some (.tuple [.int i, ds[i]]) := by unfold enumD; rw [List.getElem?_mapIdx, h0]; rfl
    rw [hd] at e4; cases e4
    exact pair_res hO e2 (.int _) h2,
   fun H O H' O' ⟨vs, _, l, r⟩ k => ⟨vs, (l.mono k).sq, l.mono k, r.mono k⟩⟩
theorem zipD_len : ∀ ds es : List D, (zipD ds es).length = min ds.length es.length
  | [], _ => by simp [zipD]
  | _ :: _, [] => by simp [zipD]
  | d :: ds, e :: es => by simp [zipD, zipD_len ds es]
theorem zipD_get : ∀ (ds es : List D) (i : Nat) (d : D), (zipD ds es)[i]? = some d → ∃ x y, ds[i]? = some x ∧ es[i]? = some y ∧ d = .tuple [x, y]
  | [], _, _, _, h => by simp [zipD] at h
  | _ :: _, [], _, _, h => by simp [zipD] at h
  | x :: ds, y :: es, 0, d, h => by
    have : PyData.tuple [x, y] = d := by simpa [zipD] using h
    exact ⟨x, y, rfl, rfl, this.symm⟩
  | _ :: ds, _ :: es, i + 1, d, h => by
    obtain ⟨x, y, h1, h2, h3⟩ := zipD_get ds es i d (by simpa [zipD] using h)
    exact ⟨x, y, by simpa using h1, by simpa using h2, h3⟩
theorem wd_zip : WalkD K (Itz K a b) (zipD ds es) (fun H O => ∃ vs ws, LA K H O a vs ∧ Reps K H O ds vs ∧ LA K H O b ws ∧ Reps K H O es ws) :=
  ⟨fun i H O hi ⟨vs, ws, l, r, m, s⟩ => by
    rw [zipD_len] at hi
    have h1 : i < vs.length := by rw [← r.length]; omega
    have h2 : i < ws.length := by rw [← s.length]; omega
    exact ⟨vs, ws, vs[i], ws[i], l.sq, m.sq, List.getElem?_eq_getElem _, List.getElem?_eq_getElem _⟩,
   fun H O ⟨vs, ws, l, r, m, s⟩ => ⟨vs, ws, l.sq, m.sq, by rw [zipD_len, ← r.length, ← s.length]; omega⟩,
   fun i H O x H' d hd ⟨vs, ws, l, r, m, s⟩ hO y => by
    obtain ⟨T, v, w, e1, e2, e3, y1, y2⟩ := y
    subst e1; subst e3
    obtain ⟨d1, d2, g1, g2, g3⟩ := zipD_get ds es i d hd
    obtain ⟨v', h1, h2⟩ := r.get g1
    obtain ⟨w', h3, h4⟩ := s.get g2
    rw [y1 vs l.sq] at h1; cases h1
    rw [y2 ws m.sq] at h3; cases h3
    subst g3
    exact pair_res hO e2 h2 h4,
   fun H O H' O' ⟨vs, ws, l, r, m, s⟩ k => ⟨vs, ws, l.mono k, r.mono k, m.mono k, s.mono k⟩⟩
theorem wd_zipT : WalkD K (RZ.ItzT K a b) (zipD ds es) (fun H O => ∃ vs ws, TAt K H O a vs ∧ Reps K H O ds vs ∧ TAt K H O b ws ∧ Reps K H O es ws) :=
  ⟨fun i H O hi ⟨vs, ws, l, r, m, s⟩ => by
    rw [zipD_len] at hi
    have h1 : i < vs.length := by rw [← r.length]; omega
    have h2 : i < ws.length := by rw [← s.length]; omega
    exact ⟨vs, ws, vs[i], ws[i], l.sq, m.sq, List.getElem?_eq_getElem _, List.getElem?_eq_getElem _⟩,
   fun H O ⟨vs, ws, l, r, m, s⟩ => ⟨vs, ws, l.sq, m.sq, by rw [zipD_len, ← r.length, ← s.length]; omega⟩,
   fun i H O x H' d hd ⟨vs, ws, l, r, m, s⟩ hO y => by
    obtain ⟨T, v, w, e1, e2, e3, y1, y2⟩ := y
    subst e1; subst e3
    obtain ⟨d1, d2, g1, g2, g3⟩ := zipD_get ds es i d hd
    obtain ⟨v', h1, h2⟩ := r.get g1
    obtain ⟨w', h3, h4⟩ := s.get g2
    rw [y1 vs l.sq] at h1; cases h1
    rw [y2 ws m.sq] at h3; cases h3
    subst g3
    exact pair_res hO e2 h2 h4,
   fun H O H' O' ⟨vs, ws, l, r, m, s⟩ k => ⟨vs, ws, l.mono k, r.mono k, m.mono k, s.mono k⟩⟩
theorem wd_zipM : WalkD K (ItzM K a b) (zipD ds es) (fun H O => ∃ vs ws, LA K H O a vs ∧ Reps K H O ds vs ∧ TAt K H O b ws ∧ Reps K H O es ws) :=
  ⟨fun i H O hi ⟨vs, ws, l, r, m, s⟩ => by
    rw [zipD_len] at hi
    have h1 : i < vs.length := by rw [← r.length]; omega
    have h2 : i < ws.length := by rw [← s.length]; omega
    exact ⟨vs, ws, vs[i], ws[i], l.sq, m.sq, List.getElem?_eq_getElem _, List.getElem?_eq_getElem _⟩,
   fun H O ⟨vs, ws, l, r, m, s⟩ => ⟨vs, ws, l.sq, m.sq, by rw [zipD_len, ← r.length, ← s.length]; omega⟩,
   fun i H O x H' d hd ⟨vs, ws, l, r, m, s⟩ hO y => by
    obtain ⟨T, v, w, e1, e2, e3, y1, y2⟩ := y
    subst e1; subst e3
    obtain ⟨d1, d2, g1, g2, g3⟩ := zipD_get ds es i d hd
    obtain ⟨v', h1, h2⟩ := r.get g1
    obtain ⟨w', h3, h4⟩ := s.get g2
    rw [y1 vs l.sq] at h1; cases h1
    rw [y2 ws m.sq] at h3; cases h3
    subst g3
    exact pair_res hO e2 h2 h4,
   fun H O H' O' ⟨vs, ws, l, r, m, s⟩ k => ⟨vs, ws, l.mono k, r.mono k, m.mono k, s.mono k⟩⟩
end

section
variable {X : Cx} {tg e e2 : Expr} {f : ME} {fs : MOs} {p pos tpos : Pos} {elts : List Expr} {kk : Nat}
/-! ### the keys of a dict that was just made: it is locked for good -/
theorem pi_keysL {td : TE} (he : PE X e td) : PI X tg e (fun σ H Rr => td σ H fun x H1 => ∃ d kvs, x = .ref d ∧ H1 d = some (.dK kvs) ∧ ∀ od, Rr (Itk d od kvs) (upd H1 d (.frz od (.dK kvs)))) := by
  refine ⟨fun pins s σ H Rr I h => ?_⟩
  refine thn (he.run pins s σ H _ I h) fun u s1 ⟨x, H1, I1, rx, d, kvs, ex, hd, q⟩ => ?_
  subst ex
  obtain rfl : u = Value.ref d := rx
  obtain ⟨od, I2⟩ := I1.lock hd (show Mut (some (.dK kvs)) from True.intro)
  obtain ⟨hs, hgd, hx, es, ep, vs, hdt, hsz, kv, hm⟩ := I2.frzK upd_same
  refine iter_keys hs hgd hx hdt (pi_one (tk := s1.toks) I2 _ (turn_keys _ hdt) ⟨_, Heap.get?_push_size _ rfl, rfl, ?_⟩ (q od))
  rw [hsz] <;> rfl
theorem repK_get {K : PySem.W.Frag} {H : Hp} {O : AS} : ∀ {ds : List (D × D)} {kvs : List (L2.Key × V)} {i : Nat} {d : D} {k : L2.Key} {v : V}, RepK K H O ds kvs → (keysD ds)[i]? = some d → kvs[i]? = some (k, v) → d = kD k ∧ KeyOk k
  | _, _, _, _, _, _, .nil, h, _ => by simp [keysD] at h
  | _, _, 0, _, _, _, .cons hk r t, h, g => by
    simp [keysD] at h g
    obtain ⟨rfl, rfl⟩ := g
    exact ⟨h.symm, hk⟩
  | _, _, i + 1, _, _, _, .cons hk r t, h, g => repK_get (i := i) t (by simpa [keysD] using h) (by simpa using g)
theorem wd_keys {K : PySem.W.Frag} {a : Addr} {od : Obj} {ds : List (D × D)} {kvs : List (L2.Key × V)} {H0 : Hp} {O0 : AS} (r : RepK K H0 O0 ds kvs) : WalkD K (Itk a od kvs) (keysD ds) (fun H O => H a = some (.frz od (.dK kvs)) ∧ ¬ O a) :=
  have hl : (keysD ds).length = kvs.length := by unfold keysD; rw [List.length_map]; exact r.length
  ⟨fun i H O hi ⟨h, _⟩ => ⟨h, by rw [← hl]; exact hi⟩,
   fun H O ⟨h, _⟩ => ⟨h, by rw [hl]; exact Nat.le_refl _⟩,
   fun i H O x H' d hd ⟨h, _⟩ _ y => by
    obtain ⟨e, k, v, h1, h2⟩ := y
    subst e; subst h2
    obtain ⟨rfl, hk⟩ := repK_get r hd h1
    refine ⟨Grow.rfl, ?_⟩
    cases k with
    | inl i => exact .int i
    | inr s => exact .str s hk,
   fun H O H' O' ⟨h, n⟩ k => k _ _ h n⟩
theorem R.lock {c : Cn} {E : AS} {ρ : Rho} {σ : L2.St} {H : Hp} {a : Addr} {u : HO} (r : R c (Add E a) ρ σ H) : R c E ρ σ (upd H a u) := by
  have k : Keeps H (OE ρ σ (Add E a)) (upd H a u) (OE ρ σ E) := fun b o h n => by
    have nb : b ≠ a := fun e => n (.inl (.inr e))
    exact ⟨by rw [upd_ne nb]; exact h, fun q => n (q.elim (fun z => .inl (.inl z)) .inr)⟩
  have th : ∀ b, (∃ o, H b = some o) → ∃ o, upd H a u b = some o := fun b ⟨o, h⟩ => by
    by_cases e : b = a
    · rw [e]; exact ⟨u, upd_same⟩
    · exact ⟨o, by rw [upd_ne e]; exact h⟩
  refine ⟨r.len, fun i d q => let ⟨v, h1, h2⟩ := r.val i d q; ⟨v, h1, h2.mono k⟩, fun i d q => ?_, r.inj, fun b q => th b (r.eal b (.inl q)), fun b o h => th b (r.al b o h), r.prt⟩
  obtain ⟨x, h1, h2, h3, h4⟩ := r.own i d q
  have nx : x ≠ a := fun e => h3 (.inr e)
  exact ⟨x, h1, h2.mono k (fun o e => by rw [upd_ne nx]; exact e), fun z => h3 (.inl z), h4⟩
theorem zi_seq (h : PE X e (tE X f)) : PI X tg e (tIt X (iSeq f)) := by
  refine ⟨fun pins s σ H Rr I hq => ?_⟩
  obtain ⟨c, E, ρ, ds, ρ', hK, hR, hf, q⟩ := hq
  obtain ⟨⟨rv, ρ1⟩, h1, hf⟩ := bindS hf
  have rd : ∀ Q : VK, (∀ z H1, PostV c E ρ σ H ρ1 H1 rv.d z → Q z H1) → tE X f σ H Q := fun Q hQ => ⟨c, E, ρ, rv, ρ1, hK, hR, h1, fun z H1 P => hQ z H1 (P.pv hR)⟩
  dsimp only at hf
  split at hf
  · cases hf
    refine (pi_list h).run pins s σ H Rr I (rd _ fun z H1 P => ?_)
    obtain ⟨s1, r1, p1⟩ := P
    cases p1 with
    | lst l r => exact ⟨_, rfl, ⟨_, by rw [← hK]; exact l.sq⟩, by rw [← hK]; exact q _ _ H1 ⟨s1, r1⟩ wd_list ⟨_, l, r⟩⟩
  · cases hf
    refine (pi_tup h).run pins s σ H Rr I (rd _ fun z H1 P => ?_)
    obtain ⟨s1, r1, p1⟩ := P
    cases p1 with
    | tup l r => exact ⟨_, rfl, ⟨_, by rw [← hK]; exact l.sq⟩, by rw [← hK]; exact q _ _ H1 ⟨s1, r1⟩ wd_tup ⟨_, l, r⟩⟩
  · cases hf
    refine (pi_str h).run pins s σ H Rr I (rd _ fun z H1 P => ?_)
    obtain ⟨s1, r1, p1⟩ := P
    cases p1 with
    | str _ hz => exact ⟨_, rfl, q _ _ H1 ⟨s1, r1⟩ (wd_str hz) True.intro⟩
  · cases hf
    refine (pi_list h).run pins s σ H Rr I (rd _ fun z H1 P => ?_)
    obtain ⟨s1, r1, p1⟩ := P
    cases p1 with
    | lst l r => exact ⟨_, rfl, ⟨_, by rw [← hK]; exact l.sq⟩, by rw [← hK]; exact q _ _ H1 ⟨s1, r1⟩ wd_list ⟨_, l, r⟩⟩
  · cases hf
    refine (pi_keysL h).run pins s σ H Rr I ⟨c, E, ρ, _, _, hK, hR, h1, fun z H1 P => ?_⟩
    obtain ⟨a, rfl, s1, n, r1, kvs, o1, o2⟩ := P
    refine ⟨a, kvs, rfl, o1, fun od => q _ _ _ ⟨⟨fun b o hb y => ?_, fun b o hb => ?_, s1.own⟩, r1.lock⟩ (wd_keys o2) ⟨upd_same, fun y => ?_⟩⟩
    · rw [upd_ne (ne_of_none hb n)]; exact s1.keep b o hb y
    · rw [upd_ne (ne_of_none hb n)]; exact s1.all b o hb
    · rcases y with y | y
      · obtain ⟨o, e⟩ := hR.eal a y; rw [n] at e; cases e
      · exact r1.own_not y (.inr rfl)
  · cases hf
theorem in62_ok {i : Int} (h : in62 i = true) : -(2 ^ 62) ≤ i ∧ i < 2 ^ 62 := by
  have h : i.natAbs < 4611686018427387904 := of_decide_eq_true h
  constructor <;> omega
theorem it_ops {fi : List D → Option (List D)} {σ : L2.St} {H : Hp} {Rr : It → Hp → Prop} {T : List V → Hp → Prop} (hq : tIt X (iFn fi fs) σ H Rr)
    (h : ∀ (O : AS) (xs ds : List D) (zs : List V) (H1 : Hp), fi xs = some ds → Reps X.K H1 O xs zs → (∀ b, O b → ∃ o, H1 b = some o) → (∀ J Gd, WalkD X.K J ds Gd → Gd H1 O → Rr J H1) → T zs H1) : tOps X fs σ H T := by
  obtain ⟨c, E, ρ, ds, ρ', hK, hR, hf, q⟩ := hq
  obtain ⟨⟨ps, ρ1⟩, h1, hf⟩ := bindS hf
  obtain ⟨xs, h2, hf⟩ := bindS hf
  obtain ⟨ds', h3, hf⟩ := bindS hf
  cases hf
  rw [hK] at q
  exact ⟨c, E, ρ, ps, ρ1, hK, hR, h1, fun zs H1 P => h (OE ρ1 σ E) xs _ zs H1 h3 (by rw [← hK]; exact tvs_ok P.2.1 h2 P.2.2) (oe_there P.2.1) fun J Gd w g => q J Gd H1 ⟨P.1, P.2.1⟩ w g⟩
def rng1 : List D → Option (List D)
  | [.int j] => if in62 j then some (upTo 0 j.toNat) else none
  | _ => none
def rng2 : List D → Option (List D)
  | [.int i, .int j] => if in62 i && in62 j then some (upTo i (j - i).toNat) else none
  | _ => none
def rng3 : List D → Option (List D)
  | [.int i, .int j, .int c] => if in62 i && in62 j && decide (c = -1) then some (downFrom i (i - j).toNat) else none
  | _ => none
variable {a b c : Expr}
theorem zi_range1 (hg : Gl X "range") (hm : X.mg "range" = none) (ha : PA X [a] (tOps X fs)) (hs : starEach [a] X.env = [(false, eval a X.env)]) : PI X tg (.Call (.Name "range" p) [a] [] pos) (tIt X (iFn rng1 fs)) := by
  refine ⟨fun pins s σ H Rr I hq => (pi_range1 hg hm ha hs).run pins s σ H Rr I (it_ops hq fun O xs ds zs H1 hf ts hO q => ?_)⟩
  unfold rng1 at hf
  split at hf
  · split at hf
    · rename_i hc
      cases ts with
      | cons t ts =>
      cases ts; cases t; cases hf
      obtain ⟨h1, h2⟩ := in62_ok hc
      exact ⟨_, rfl, h1, h2, q _ _ wd_range True.intro⟩
    · cases hf
  · cases hf
theorem zi_range2 (hg : Gl X "range") (hm : X.mg "range" = none) (ha : PA X [a, b] (tOps X fs)) (hs : starEach [a, b] X.env = [(false, eval a X.env), (false, eval b X.env)]) (hs2 : starEach [b] X.env = [(false, eval b X.env)]) :
    PI X tg (.Call (.Name "range" p) [a, b] [] pos) (tIt X (iFn rng2 fs)) := by
  refine ⟨fun pins s σ H Rr I hq => (pi_range2 hg hm ha hs hs2).run pins s σ H Rr I (it_ops hq fun O xs ds zs H1 hf ts hO q => ?_)⟩
  unfold rng2 at hf
  split at hf
  · split at hf
    · rename_i hc
      rw [Bool.and_eq_true] at hc
      cases ts with
      | cons t ts =>
      cases ts with
      | cons t2 ts =>
      cases ts; cases t; cases t2; cases hf
      obtain ⟨h1, h2⟩ := in62_ok hc.1
      obtain ⟨h3, h4⟩ := in62_ok hc.2
      exact ⟨_, _, rfl, ⟨h1, h2, h3, h4⟩, q _ _ wd_range True.intro⟩
    · cases hf
  · cases hf
theorem zi_range3 (hg : Gl X "range") (hm : X.mg "range" = none) (ha : PA X [a, b, c] (tOps X fs)) (hs : starEach [a, b, c] X.env = (false, eval a X.env) :: starEach [b, c] X.env) (hpl : (backTo pos (starEach [b, c] X.env)).any (·.1) = false) :
    PI X tg (.Call (.Name "range" p) [a, b, c] [] pos) (tIt X (iFn rng3 fs)) := by
  refine ⟨fun pins s σ H Rr I hq => (pi_range3 hg hm ha hs hpl).run pins s σ H Rr I (it_ops hq fun O xs ds zs H1 hf ts hO q => ?_)⟩
  unfold rng3 at hf
  split at hf
  · split at hf
    · rename_i hc
      simp only [Bool.and_eq_true, decide_eq_true_eq] at hc
      obtain ⟨⟨c1, c2⟩, c3⟩ := hc
      subst c3
      cases ts with
      | cons t ts =>
      cases ts with
      | cons t2 ts =>
      cases ts with
      | cons t3 ts =>
      cases ts; cases t; cases t2; cases t3; cases hf
      obtain ⟨h1, h2⟩ := in62_ok c1
      obtain ⟨h3, h4⟩ := in62_ok c2
      exact ⟨_, _, _, _, rfl, RgC.neg h1 h2 h3 h4, q _ _ wd_down True.intro⟩
    · cases hf
  · cases hf
theorem zi_enumA (hg : Gl X "enumerate") (hm : X.mg "enumerate" = none) (ha : PA X [e] (tOps X fs)) (hs : starEach [e] X.env = [(false, eval e X.env)]) :
    PI X (.Tuple elts kk tpos) (.Call (.Name "enumerate" p) [e] [] pos) (tIt X (iFn enuA fs)) := by
  refine ⟨fun pins s σ H Rr I hq => (EnT.pi_enA hg hm ha hs).run pins s σ H Rr I (it_ops hq fun O xs ds zs H1 hf ts hO q => ?_)⟩
  unfold enuA at hf
  split at hf
  · cases hf
    cases ts with
    | cons t ts =>
    cases ts
    cases t with
    | lst l r => exact ⟨_, _, rfl, .inl ⟨l.sq, q _ _ wd_enum ⟨_, l.sq, l, r⟩⟩⟩
  · cases hf
    cases ts with
    | cons t ts =>
    cases ts
    cases t with
    | tup l r => exact ⟨_, _, rfl, .inr ⟨l.sq, q _ _ wd_enumT ⟨_, l.sq, l, r⟩⟩⟩
  · cases hf
theorem zi_enumS (hg : Gl X "enumerate") (hm : X.mg "enumerate" = none) (ha : PA X [e] (tOps X fs)) (hs : starEach [e] X.env = [(false, eval e X.env)]) :
    PI X (.Tuple elts kk tpos) (.Call (.Name "enumerate" p) [e] [] pos) (tIt X (iFn enuS fs)) := by
  refine ⟨fun pins s σ H Rr I hq => (EnS.pi_enS hg hm ha hs).run pins s σ H Rr I (it_ops hq fun O xs ds zs H1 hf ts hO q => ?_)⟩
  unfold enuS at hf
  split at hf
  · cases hf
    cases ts with
    | cons t ts =>
    cases ts
    cases t with
    | str x h => exact ⟨_, rfl, q _ _ (wd_enumS h) True.intro⟩
  · cases hf
theorem zi_enum (hg : Gl X "enumerate") (hm : X.mg "enumerate" = none) (ha : PA X [e] (tOps X fs)) (hs : starEach [e] X.env = [(false, eval e X.env)]) :
    PI X (.Tuple elts kk tpos) (.Call (.Name "enumerate" p) [e] [] pos) (tIt X (iFn enuD fs)) := by
  refine ⟨fun pins s σ H Rr I hq => ?_⟩
  obtain ⟨c, E, ρ, ds, ρ', hK, hR, hf, q⟩ := hq
  obtain ⟨⟨ps, ρ1⟩, h1, hf⟩ := bindS hf
  obtain ⟨xs, h2, hf⟩ := bindS hf
  obtain ⟨ds', h3, hf⟩ := bindS hf
  cases hf
  have go : ∀ {g : List D → Option (List D)}, g xs = some ds → tIt X (iFn g fs) σ H Rr := fun {g} h => ⟨c, E, ρ, ds, ρ1, hK, hR, by
    unfold iFn
    rw [h1, Option.bind_some, h2, Option.bind_some, h, Option.bind_some], q⟩
  rcases enuD_or h3 with h | h
  · exact (zi_enumA hg hm ha hs).run pins s σ H Rr I (go h)
  · exact (zi_enumS hg hm ha hs).run pins s σ H Rr I (go h)
theorem zi_zipS (hg : Gl X "zip") (hm : X.mg "zip" = none) (ha : PA X [e, e2] (tOps X fs)) (hs : starEach [e, e2] X.env = (false, eval e X.env) :: starEach [e2] X.env) (hpl : (backTo pos (starEach [e2] X.env)).any (·.1) = false) :
    PI X (.Tuple elts kk tpos) (.Call (.Name "zip" p) [e, e2] [] pos) (tIt X (iFn zpS fs)) := by
  refine ⟨fun pins s σ H Rr I hq => (RZ.pi_zipA hg hm ha hs hpl).run pins s σ H Rr I (it_ops hq fun O xs ds zs H1 hf ts hO q => ?_)⟩
  unfold zpS at hf
  split at hf
  · cases hf
    cases ts with
    | cons t ts =>
    cases ts with
    | cons t2 ts =>
    cases ts
    cases t with
    | lst l r =>
    cases t2 with
    | lst l2 r2 => exact ⟨_, _, _, _, rfl, .inl ⟨l.sq, l2.sq, q _ _ wd_zip ⟨_, _, l, r, l2, r2⟩⟩⟩
  · cases hf
    cases ts with
    | cons t ts =>
    cases ts with
    | cons t2 ts =>
    cases ts
    cases t with
    | tup l r =>
    cases t2 with
    | tup l2 r2 => exact ⟨_, _, _, _, rfl, .inr ⟨l.sq, l2.sq, q _ _ wd_zipT ⟨_, _, l, r, l2, r2⟩⟩⟩
  · cases hf
theorem zi_zipM (hg : Gl X "zip") (hm : X.mg "zip" = none) (ha : PA X [e, e2] (tOps X fs)) (hs : starEach [e, e2] X.env = (false, eval e X.env) :: starEach [e2] X.env) (hpl : (backTo pos (starEach [e2] X.env)).any (·.1) = false) :
    PI X (.Tuple elts kk tpos) (.Call (.Name "zip" p) [e, e2] [] pos) (tIt X (iFn zpM fs)) := by
  refine ⟨fun pins s σ H Rr I hq => (pi_zipM hg hm ha hs hpl).run pins s σ H Rr I (it_ops hq fun O xs ds zs H1 hf ts hO q => ?_)⟩
  unfold zpM at hf
  split at hf
  · cases hf
    cases ts with
    | cons t ts =>
    cases ts with
    | cons t2 ts =>
    cases ts
    cases t with
    | lst l r =>
    cases t2 with
    | tup l2 r2 => exact ⟨_, _, _, _, rfl, l.sq, l2.sq, q _ _ wd_zipM ⟨_, _, l, r, l2, r2⟩⟩
  · cases hf
theorem zi_zip (hg : Gl X "zip") (hm : X.mg "zip" = none) (ha : PA X [e, e2] (tOps X fs)) (hs : starEach [e, e2] X.env = (false, eval e X.env) :: starEach [e2] X.env) (hpl : (backTo pos (starEach [e2] X.env)).any (·.1) = false) :
    PI X (.Tuple elts kk tpos) (.Call (.Name "zip" p) [e, e2] [] pos) (tIt X (iFn zpD fs)) := by
  refine ⟨fun pins s σ H Rr I hq => ?_⟩
  obtain ⟨c, E, ρ, ds, ρ', hK, hR, hf, q⟩ := hq
  obtain ⟨⟨ps, ρ1⟩, h1, hf⟩ := bindS hf
  obtain ⟨xs, h2, hf⟩ := bindS hf
  obtain ⟨ds', h3, hf⟩ := bindS hf
  cases hf
  have go : ∀ {g : List D → Option (List D)}, g xs = some ds → tIt X (iFn g fs) σ H Rr := fun {g} h => ⟨c, E, ρ, ds, ρ1, hK, hR, by
    unfold iFn
    rw [h1, Option.bind_some, h2, Option.bind_some, h, Option.bind_some], q⟩
  rcases zpD_or h3 with h | h
  · exact (zi_zipS hg hm ha hs hpl).run pins s σ H Rr I (go h)
  · exact (zi_zipM hg hm ha hs hpl).run pins s σ H Rr I (go h)
end

/-! ## for -/
def forL (g : SG) (b : SS) : List D → SS
  | [] => fun ρ => some (.nx, ρ)
  | d :: ds => fun ρ => (g d ρ).bind fun ρ1 => (b ρ1).bind fun s => match s.1 with
    | .nx => forL g b ds s.2
    | .ct => forL g b ds s.2
    | .bk => some (.nx, s.2)
    | .rt v => some (.rt v, s.2)
def sFor (fi : MIt) (g : SG) (b : SS) : SS := fun ρ => (fi ρ).bind fun r => forL g b r.1 r.2
theorem zs_for {X : Cx} {pr tv : List Nat} {fi : MIt} {g : SG} {s : SS} {tg iter : Expr} {body : List Stmt} {pos : Pos} (hpo : PassesOwn (model X.prog X.w) X.A X.env X.xe) (hc : X.calm = true) (hi : PI X tg iter (tIt X fi)) (hg : PG X tg (tG X pr tv g)) (hb : PSs X body (tS X pr s)) (hfs : ∀ x, foldedSetIterable iter X.env x = pure x) :
    PS X (.For tg iter body [] pos) (tS X pr (sFor fi g s)) := by
  refine ⟨fun pins s0 σ H Dd I hq => (ps_for hpo hc hi hg hb hfs).run pins s0 σ H Dd I ?_⟩
  obtain ⟨c, E, ρ, out, ρ', hK, hp, hR, hf, q⟩ := hq
  obtain ⟨⟨ds, ρ1⟩, h1, hf⟩ := bindS hf
  refine ⟨c, E, ρ, ds, ρ1, hK, hR, h1, fun J Gd H1 P1 wk g1 => ?_⟩
  refine ⟨fun i m σ2 H2 => m = ds.length - i ∧ i ≤ ds.length ∧ ∃ ρ2, R c E ρ2 σ2 H2 ∧ forL g s (ds.drop i) ρ2 = some (out, ρ') ∧ EndS c E ρ2 σ2 H2 ρ' out Dd ∧ Gd H2 (OE ρ2 σ2 E), ⟨ds.length, by simp, Nat.zero_le _, ρ1, P1.2, hf, EndS.from P1 q, g1⟩, ?_⟩
  rintro i m σ2 H2 ⟨rfl, hi, ρ2, R2, f2, q2, g2⟩
  by_cases hlt : i < ds.length
  · have ed : ds[i]? = some ds[i] := List.getElem?_eq_getElem hlt
    rw [List.drop_eq_getElem_cons hlt] at f2
    obtain ⟨ρ3, h3, f2⟩ := bindS f2
    obtain ⟨⟨o4, ρ4⟩, h4, f2⟩ := bindS f2
    refine .inr ⟨wk.goes i H2 _ hlt g2, fun σ' H' => ∃ ρ2, R c E ρ2 σ' H' ∧ forL g s (ds.drop (i + 1)) ρ2 = some (out, ρ') ∧ EndS c E ρ2 σ' H' ρ' out Dd ∧ Gd H' (OE ρ2 σ' E), fun σ' H' h => ⟨ds.length - (i + 1), by omega, rfl, hlt, h⟩, fun x H3 y => ?_⟩
    obtain ⟨gr, rp⟩ := wk.yields i H2 _ x H3 _ ed g2 (oe_there R2) y
    have P3 : PostN c E ρ2 σ2 H2 ρ2 σ2 H3 := ⟨gr.stp, R2.grow gr⟩
    refine ⟨c, E, ρ2, ds[i], ρ3, hK, hp, R2.grow gr, rp, h3, fun σ4 H4 P4 _ => ⟨c, E, ρ3, o4, ρ4, hK, hp, P4.2, h4, ?_⟩⟩
    have P5 := P3.trans P4
    cases o4 with
    | nx => exact fun σ' H' p => ⟨ρ4, p.2, f2, EndS.from (P5.trans p) q2, wk.keeps _ _ _ _ g2 (P5.trans p).1.keeps⟩
    | ct => exact fun σ' H' p => ⟨ρ4, p.2, f2, EndS.from (P5.trans p) q2, wk.keeps _ _ _ _ g2 (P5.trans p).1.keeps⟩
    | bk => cases f2; exact fun σ' H' p => q2 σ' H' (P5.trans p)
    | rt rv => cases f2; exact fun z σ' H' p => q2 z σ' H' (PostR.from P5 p)
  · have e : i = ds.length := by omega
    subst e
    rw [List.drop_length] at f2
    cases f2
    exact .inl ⟨wk.stops H2 _ g2, q2 σ2 H2 ⟨Stp.rfl, R2⟩⟩
end Z
namespace Z
open PySem PySem.Spec L2
open PyProof.Rows hiding St

/-! ## comprehensions -/
def wipeR (ρ : Rho) : List Nat → Rho
  | [] => ρ
  | v :: vs => (wipeR ρ vs).set v none
/-- the block's own slots as they were ahead of it -/
def backR (ρ0 ρ : Rho) : List Nat → Rho
  | [] => ρ
  | v :: vs => (backR ρ0 ρ vs).set v ((ρ0[v]?).getD none)
def lcL (vs : List Nat) (g : SG) (t : MB) (f : ME) : List D → Rho → List D → Option (List D × Rho)
  | [], ρ, acc => some (acc, ρ)
  | d :: ds, ρ, acc => (g d ρ).bind fun ρ1 => (t ρ1).bind fun b => if b.1 then (f b.2).bind fun r => if decide (acc.length < 16777216) then lcL vs g t f ds (wipeR r.2 vs) (acc ++ [r.1.d]) else none
    else lcL vs g t f ds (wipeR b.2 vs) acc
def eLc (vs : List Nat) (fi : MIt) (g : SG) (t : MB) (f : ME) : ME := fun ρ => (fi ρ).bind fun r =>
  if vs.any (ownAt r.2) then none else (lcL vs g t f r.1 (wipeR r.2 vs) []).bind fun s => some (.o (.list s.1), backR r.2 s.2 vs)
def bYes : MB := fun ρ => some (true, ρ)

section
variable {c : Cn} {E : AS} {ρ ρ0 : Rho} {σ : L2.St} {H : Hp}
theorem wipeR_len : ∀ (ρ : Rho) (vs : List Nat), (wipeR ρ vs).length = ρ.length
  | _, [] => rfl
  | ρ, v :: vs => by unfold wipeR; rw [List.length_set, wipeR_len ρ vs]
theorem wipeR_out : ∀ {vs : List Nat} {i : Nat}, i ∉ vs → (wipeR ρ vs)[i]? = ρ[i]?
  | [], _, _ => rfl
  | v :: vs, i, h => by
    rw [List.mem_cons, not_or] at h
    unfold wipeR
    rw [List.getElem?_set_ne (Ne.symm h.1), wipeR_out h.2]
theorem wipeR_in : ∀ {vs : List Nat} {i : Nat} {r : RV}, i ∈ vs → (wipeR ρ vs)[i]? = some (some r) → False
  | [], _, _, h, _ => by cases h
  | v :: vs, i, r, h, q => by
    unfold wipeR at q
    rcases get_set q with ⟨_, q, _⟩ | ⟨h1, q⟩
    · cases q
    · rcases List.mem_cons.mp h with e | h
      · exact h1 e
      · exact wipeR_in h q
theorem wipe_out : ∀ {vs : List Nat} {i : Nat}, i ∉ vs → (wipe σ vs)[i]? = σ[i]?
  | [], _, _ => rfl
  | v :: vs, i, h => by
    rw [List.mem_cons, not_or] at h
    unfold wipe
    rw [List.getElem?_set_ne (Ne.symm h.1), wipe_out h.2]
theorem backR_len : ∀ (vs : List Nat), (backR ρ0 ρ vs).length = ρ.length
  | [] => rfl
  | v :: vs => by unfold backR; rw [List.length_set, backR_len vs]
theorem backR_out : ∀ {vs : List Nat} {i : Nat}, i ∉ vs → (backR ρ0 ρ vs)[i]? = ρ[i]?
  | [], _, _ => rfl
  | v :: vs, i, h => by
    rw [List.mem_cons, not_or] at h
    unfold backR
    rw [List.getElem?_set_ne (Ne.symm h.1), backR_out h.2]
theorem backR_in : ∀ {vs : List Nat} {i : Nat} {r : RV}, i ∈ vs → (backR ρ0 ρ vs)[i]? = some (some r) → ρ0[i]? = some (some r)
  | [], _, _, h, _ => by cases h
  | v :: vs, i, r, h, q => by
    unfold backR at q
    rcases get_set q with ⟨e, q, _⟩ | ⟨h1, q⟩
    · subst e
      cases w : ρ0[i]? with
      | none => rw [w] at q; cases q
      | some x => rw [w] at q; exact congrArg some q
    · rcases List.mem_cons.mp h with e | h
      · exact absurd e h1
      · exact backR_in h q
theorem wipe_same {σ' : L2.St} {vs : List Nat} (h : Same' vs σ σ') : wipe σ' vs = wipe σ vs := by
  have gen : ∀ us : List Nat, (∀ j, j ∉ vs → σ'[j]? = σ[j]?) → (∀ j ∈ vs, j ∈ us ∨ σ'[j]? = σ[j]?) → wipe σ' us = wipe σ us := by
    intro us ho hv
    apply List.ext_getElem?
    intro i
    by_cases hi : i ∈ us
    · have nn : ∀ (τ : L2.St), (wipe τ us)[i]? = none ∨ (wipe τ us)[i]? = some none := fun τ => by
        cases q : (wipe τ us)[i]? with
        | none => exact .inl rfl
        | some x =>
          cases x with
          | none => exact .inr rfl
          | some v => exact absurd hi (wipe_some q).2
      have l1 : (wipe σ' us).length = (wipe σ us).length := by rw [wipe_length, wipe_length]; exact h.1
      rcases nn σ' with e | e <;> rcases nn σ with e' | e'
      · rw [e, e']
      · have a := List.getElem?_eq_none_iff.mp e
        have b := (List.getElem?_eq_some_iff.mp e').1
        omega
      · have a := List.getElem?_eq_none_iff.mp e'
        have b := (List.getElem?_eq_some_iff.mp e).1
        omega
      · rw [e, e']
    · rw [wipe_out hi, wipe_out hi]
      by_cases hv' : i ∈ vs
      · exact (hv i hv').resolve_left hi
      · exact ho i hv'
  exact gen vs h.2 fun j hj => .inl hj
/-- slots are forgotten -/
theorem R.wipe {vs : List Nat} (r : R c E ρ σ H) (np : ∀ v ∈ vs, v ∉ c.pr) : R c E (wipeR ρ vs) (L2.wipe σ vs) H ∧ Stp ρ σ H (wipeR ρ vs) (L2.wipe σ vs) H := by
  have at1 : ∀ {i : Nat} {x : RV}, (wipeR ρ vs)[i]? = some (some x) → i ∉ vs ∧ ρ[i]? = some (some x) := fun {i x} q => by
    by_cases hi : i ∈ vs
    · exact (wipeR_in hi q).elim
    · rw [wipeR_out hi] at q; exact ⟨hi, q⟩
  have osub : ∀ b, OwnS (wipeR ρ vs) (L2.wipe σ vs) b → OwnS ρ σ b := fun b ⟨i, d, q1, q2⟩ => by
    obtain ⟨hi, q3⟩ := at1 q1
    exact ⟨i, d, q3, (wipe_some q2).1⟩
  have k : Keeps H (OE ρ σ E) H (OE (wipeR ρ vs) (L2.wipe σ vs) E) := fun b o h n => ⟨h, fun y => n (y.elim .inl fun y => .inr (osub b y))⟩
  refine ⟨⟨by rw [wipeR_len, wipe_length]; exact r.len, fun i d q => ?_, fun i d q => ?_, fun i j d e a q1 q2 g1 g2 => ?_, r.eal, r.al, fun i hi => ?_⟩, fun _ _ h _ => h, fun _ _ h => ⟨_, h⟩, fun b _ _ q => osub b q⟩
  · obtain ⟨hi, q1⟩ := at1 q
    obtain ⟨v, h1, h2⟩ := r.val i d q1
    exact ⟨v, by rw [wipe_out hi]; exact h1, h2.mono k⟩
  · obtain ⟨hi, q1⟩ := at1 q
    obtain ⟨a, h1, h2, h3⟩ := r.own i d q1
    exact ⟨a, by rw [wipe_out hi]; exact h1, h2.mono k (fun _ h => h), h3⟩
  · exact r.inj i j d e a (at1 q1).2 (at1 q2).2 (wipe_some g1).1 (wipe_some g2).1
  · rw [wipe_out fun h => np i h hi]; exact r.prt i hi
end

section
variable {X : Cx} {pr vs tv : List Nat} {fi : MIt} {g : SG} {t : MB} {f : ME}
/-- the context of a block -/
def Cn.blk (c : Cn) : Cn := ⟨c.K, fun _ => none, c.s0, []⟩
theorem R.blk {c : Cn} {E : AS} {ρ : Rho} {σ : L2.St} {H : Hp} (r : R c E ρ σ H) : R c.blk E ρ σ H :=
  ⟨r.len, r.val, fun i d q => let ⟨a, h1, h2, h3, _⟩ := r.own i d q; ⟨a, h1, h2, h3, .inl rfl⟩, r.inj, r.eal, (fun b o h => by cases h), fun i hi => by cases hi⟩
/-- out of a block -/
theorem R.unblk {c : Cn} {E E' : AS} {ρ0 ρ : Rho} {σ : L2.St} {H H' : Hp} {vs : List Nat} (r0 : R c E ρ0 σ H) (no : ∀ v ∈ vs, ownAt ρ0 v = false) (r : R c.blk E' ρ (L2.wipe σ vs) H') (s : Stp ρ0 σ H ρ (L2.wipe σ vs) H') (hE : ∀ b o, H b = some o → E' b → E b) :
    R c E' (backR ρ0 ρ vs) σ H' ∧ Stp ρ0 σ H (backR ρ0 ρ vs) σ H' ∧ OwnS (backR ρ0 ρ vs) σ = OwnS ρ (L2.wipe σ vs) := by
  have nown : ∀ v ∈ vs, ∀ d, ρ0[v]? ≠ some (some (.o d)) := fun v hv d q => by
    have := no v hv
    unfold ownAt at this
    rw [q] at this
    cases this
  have at1 : ∀ {i : Nat} {d : D}, (backR ρ0 ρ vs)[i]? = some (some (.o d)) → i ∉ vs ∧ ρ[i]? = some (some (.o d)) := fun {i d} q => by
    by_cases hi : i ∈ vs
    · exact (nown i hi d (backR_in hi q)).elim
    · rw [backR_out hi] at q; exact ⟨hi, q⟩
  have rlen : ρ.length = σ.length := by rw [r.len, wipe_length]
  have oS : OwnS (backR ρ0 ρ vs) σ = OwnS ρ (L2.wipe σ vs) := by
    funext b
    apply propext
    constructor
    · rintro ⟨i, d, q1, q2⟩
      obtain ⟨hi, q3⟩ := at1 q1
      exact ⟨i, d, q3, by rw [wipe_out hi]; exact q2⟩
    · rintro ⟨i, d, q1, q2⟩
      obtain ⟨q3, hi⟩ := wipe_some q2
      exact ⟨i, d, by rw [backR_out hi]; exact q1, q3⟩
  have oE : OE (backR ρ0 ρ vs) σ E' = OE ρ (L2.wipe σ vs) E' := by unfold OE; rw [oS]
  have k : Keeps H (OE ρ0 σ E) H' (OE (backR ρ0 ρ vs) σ E') := fun b o q n => ⟨s.keep b o q fun y => n (.inr y), fun y => by
    rcases y with y | y
    · exact n (.inl (hE b o q y))
    · rw [oS] at y; exact n (.inr (s.own b o q y))⟩
  refine ⟨⟨by rw [backR_len]; exact rlen, fun i d q => ?_, fun i d q => ?_, fun i j d e a q1 q2 g1 g2 => ?_, r.eal, fun b o q => let ⟨o', q'⟩ := r0.al b o q; s.all b o' q', r0.prt⟩, ⟨s.keep, s.all, fun b o q y => by rw [oS] at y; exact s.own b o q y⟩, oS⟩
  · by_cases hi : i ∈ vs
    · obtain ⟨v, h1, h2⟩ := r0.val i d (backR_in hi q)
      exact ⟨v, h1, h2.mono k⟩
    · rw [backR_out hi] at q
      obtain ⟨v, h1, h2⟩ := r.val i d q
      rw [wipe_out hi] at h1
      exact ⟨v, h1, by rw [oE]; exact h2⟩
  · obtain ⟨hi, q1⟩ := at1 q
    obtain ⟨a, h1, h2, h3, _⟩ := r.own i d q1
    rw [wipe_out hi] at h1
    refine ⟨a, h1, by rw [oE]; exact h2, h3, ?_⟩
    cases w : H a with
    | none =>
      cases w2 : c.H0 a with
      | none => exact .inl rfl
      | some u => obtain ⟨u', h'⟩ := r0.al a u w2; rw [w] at h'; cases h'
    | some u =>
      obtain ⟨j, e, y1, y2⟩ := s.own a u w ⟨i, d, q1, by rw [wipe_out hi]; exact h1⟩
      obtain ⟨a', y3, _, _, y4⟩ := r0.own j e y1
      rw [y2] at y3
      cases y3
      exact y4
  · obtain ⟨hi, q3⟩ := at1 q1
    obtain ⟨hj, q4⟩ := at1 q2
    exact r.inj i j d e a q3 q4 (by rw [wipe_out hi]; exact g1) (by rw [wipe_out hj]; exact g2)
theorem OwnS_wipe {ρ : Rho} {σ : L2.St} {vs : List Nat} : ∀ b, OwnS (wipeR ρ vs) (L2.wipe σ vs) b → OwnS ρ σ b := fun b ⟨i, d, q1, q2⟩ => by
  by_cases hi : i ∈ vs
  · exact (wipeR_in hi q1).elim
  · rw [wipeR_out hi] at q1
    exact ⟨i, d, q1, (wipe_some q2).1⟩
theorem lc_read {σ : L2.St} {H : Hp} {Q : VK} (hq : tE X (eLc vs fi g t f) σ H Q) (htv : ∀ i ∈ tv, i ∈ vs) : tLc (tIt X fi) (tG X [] tv g) (tT X t) (tE X f) vs σ H Q := by
  obtain ⟨c, E, ρ, rv, ρ', hK, hR, hf, q⟩ := hq
  obtain ⟨⟨ds, ρ1⟩, h1, hf⟩ := bindS hf
  split at hf
  · cases hf
  · rename_i no
    have no : ∀ v ∈ vs, ownAt ρ1 v = false := by
      intro v hv
      cases w : ownAt ρ1 v with
      | false => rfl
      | true => exact absurd (List.any_eq_true.mpr ⟨v, hv, w⟩) no
    obtain ⟨⟨out, ρ2⟩, h2, hf⟩ := bindS hf
    cases hf
    refine ⟨c, E, ρ, ds, ρ1, hK, hR, h1, fun J Gd H1 P1 wk g1 D nD => ?_⟩
    obtain ⟨s1, R1⟩ := P1
    have nE : ¬ E D := fun y => by obtain ⟨o, e⟩ := R1.eal D y; rw [nD] at e; cases e
    -- the start
    have Ra : R c.blk (Add E D) ρ1 σ (upd H1 D (.lst [])) := (R1.add (o := .lst []) nD (Grow.upd nD) upd_same).blk
    obtain ⟨Rb, sb⟩ := Ra.wipe (vs := vs) (fun v _ h => by cases h)
    have g2 : Gd (upd H1 D (.lst [])) (OE (wipeR ρ1 vs) (L2.wipe σ vs) (Add E D)) := wk.keeps _ _ _ _ g1 fun b o e n => ⟨by rw [upd_ne (ne_of_none e nD)]; exact e, fun y => by
      rcases y with (y | y) | y
      · exact n (.inl y)
      · rw [y, nD] at e; cases e
      · exact n (.inr (OwnS_wipe b y))⟩
    have s0 : Stp ρ1 σ H1 (wipeR ρ1 vs) (L2.wipe σ vs) (upd H1 D (.lst [])) := (Grow.upd nD).stp.trans sb
    refine ⟨fun i m H2 => m = ds.length - i ∧ i ≤ ds.length ∧ ∃ ρ3 accD accV, R c.blk (Add E D) ρ3 (L2.wipe σ vs) H2 ∧ Stp ρ1 σ H1 ρ3 (L2.wipe σ vs) H2 ∧ lcL vs g t f (ds.drop i) ρ3 accD = some (out, ρ2) ∧ H2 D = some (.lst accV) ∧
      Reps c.K H2 (OE ρ3 (L2.wipe σ vs) (Add E D)) accD accV ∧ Gd H2 (OE ρ3 (L2.wipe σ vs) (Add E D)), ⟨ds.length, by simp, Nat.zero_le _, wipeR ρ1 vs, [], [], Rb, s0, h2, upd_same, .nil, g2⟩, ?_⟩
    rintro i m H2 ⟨rfl, hi, ρ3, accD, accV, R3, s3, f3, eD, rA, g3⟩
    by_cases hlt : i < ds.length
    · have ed : ds[i]? = some ds[i] := List.getElem?_eq_getElem hlt
      rw [List.drop_eq_getElem_cons hlt] at f3
      obtain ⟨ρ4, h4, f3⟩ := bindS f3
      obtain ⟨⟨b5, ρ5⟩, h5, f3⟩ := bindS f3
      refine .inr ⟨wk.goes i H2 _ hlt g3, fun H' => ∃ ρ3 accD accV, R c.blk (Add E D) ρ3 (L2.wipe σ vs) H' ∧ Stp ρ1 σ H1 ρ3 (L2.wipe σ vs) H' ∧ lcL vs g t f (ds.drop (i + 1)) ρ3 accD = some (out, ρ2) ∧ H' D = some (.lst accV) ∧
        Reps c.K H' (OE ρ3 (L2.wipe σ vs) (Add E D)) accD accV ∧ Gd H' (OE ρ3 (L2.wipe σ vs) (Add E D)), fun H' h => ⟨ds.length - (i + 1), by omega, rfl, hlt, h⟩, fun x H3 y => ?_⟩
      obtain ⟨gr, rp⟩ := wk.yields i H2 _ x H3 _ ed g3 (oe_there R3) y
      have P3 : PostN c.blk (Add E D) ρ3 (L2.wipe σ vs) H2 ρ3 (L2.wipe σ vs) H3 := ⟨gr.stp, R3.grow gr⟩
      refine ⟨c.blk, Add E D, ρ3, ds[i], ρ4, hK, rfl, P3.2, rp, h4, fun σ4 H4 P4 sm => ⟨wipe_same (vs := vs) ⟨by rw [sm.1, wipe_length], fun j hj => by rw [sm.2 j fun h => hj (htv j h), wipe_out hj]⟩, ?_⟩⟩
      have wE : L2.wipe σ4 vs = L2.wipe σ vs := wipe_same (vs := vs) ⟨by rw [sm.1, wipe_length], fun j hj => by rw [sm.2 j fun h => hj (htv j h), wipe_out hj]⟩
      refine ⟨c.blk, Add E D, ρ4, b5, ρ5, hK, P4.2, h5, fun H5 P5 => ?_⟩
      have Q5 : PostN c.blk (Add E D) ρ3 (L2.wipe σ vs) H2 ρ5 σ4 H5 := (P3.trans P4).trans P5
      have nOD : ∀ {ρx : Rho} {σx : L2.St} {Hx : Hp}, R c.blk (Add E D) ρx σx Hx → ¬ OwnS ρx σx D := fun r y => r.own_not y (.inr rfl)
      have next : ∀ {ρx : Rho} {H' : Hp} {ad : List PyData} {av : List V}, PostN c.blk (Add E D) ρ3 (L2.wipe σ vs) H2 ρx σ4 H' → lcL vs g t f (ds.drop (i + 1)) (wipeR ρx vs) ad = some (out, ρ2) → H' D = some (.lst av) → Reps c.K H' (OE ρx σ4 (Add E D)) ad av →
          ∃ ρ3 accD accV, R c.blk (Add E D) ρ3 (L2.wipe σ vs) H' ∧ Stp ρ1 σ H1 ρ3 (L2.wipe σ vs) H' ∧ lcL vs g t f (ds.drop (i + 1)) ρ3 accD = some (out, ρ2) ∧ H' D = some (.lst accV) ∧
            Reps c.K H' (OE ρ3 (L2.wipe σ vs) (Add E D)) accD accV ∧ Gd H' (OE ρ3 (L2.wipe σ vs) (Add E D)) := fun {ρx H' ad av} P ff eD' rA' => by
        obtain ⟨Rw, sw⟩ := P.2.wipe (vs := vs) (fun v _ h => by cases h)
        rw [wE] at Rw sw
        exact ⟨wipeR ρx vs, ad, av, Rw, s3.trans (P.1.trans sw), ff, eD', rA'.mono sw.keeps, wk.keeps _ _ _ _ g3 (P.1.trans sw).keeps⟩
      cases b5 with
      | false =>
        have f3 : lcL vs g t f (ds.drop (i + 1)) (wipeR ρ5 vs) accD = some (out, ρ2) := f3
        exact iteF (next Q5 f3 (Q5.1.keep D _ eD (nOD R3)) (rA.mono Q5.1.keeps))
      | true =>
        obtain ⟨⟨r6, ρ6⟩, h6, f3⟩ := bindS f3
        split at f3
        · rename_i hz
          refine iteT ⟨c.blk, Add E D, ρ5, r6, ρ6, hK, P5.2, h6, fun z H6 P6 => ?_⟩
          obtain ⟨s6, R6, v6⟩ := P6.pv P5.2
          have Q6 : PostN c.blk (Add E D) ρ3 (L2.wipe σ vs) H2 ρ6 σ4 H6 := Q5.trans ⟨s6, R6⟩
          have eD6 := Q6.1.keep D _ eD (nOD R3)
          have la : accD.length = accV.length := rA.length
          refine ⟨accV, eD6, by rw [sizeLine_eq, ← la]; exact of_decide_eq_true hz, ?_⟩
          -- the list at D grows: nobody else reads it
          have nSD := nOD R6
          have kD : Keeps H6 (OE ρ6 σ4 (Add E D)) (upd H6 D (.lst (accV ++ [z]))) (OE ρ6 σ4 (Add E D)) := fun b o e n => ⟨by rw [upd_ne (fun e' => n (.inl (.inr e')))]; exact e, n⟩
          have R7 : R c.blk (Add E D) ρ6 σ4 (upd H6 D (.lst (accV ++ [z]))) := by
            have thr : ∀ b o, H6 b = some o → ∃ o', (upd H6 D (.lst (accV ++ [z]))) b = some o' := fun b o e => by
              by_cases hb : b = D
              · rw [hb]; exact ⟨_, upd_same⟩
              · exact ⟨o, by rw [upd_ne hb]; exact e⟩
            exact ⟨R6.len, fun j d w => let ⟨v, y1, y2⟩ := R6.val j d w; ⟨v, y1, y2.mono kD⟩, fun j d w => by
              obtain ⟨a, y1, y2, y3, y4⟩ := R6.own j d w
              exact ⟨a, y1, y2.mono kD (fun o e => by rw [upd_ne (fun e' => y3 (.inr e'))]; exact e), y3, y4⟩, R6.inj, fun b y => let ⟨o, e⟩ := R6.eal b y; thr b o e, (fun b o y => by cases y), R6.prt⟩
          have s7 : Stp ρ6 σ4 H6 ρ6 σ4 (upd H6 D (.lst (accV ++ [z]))) → True := fun _ => True.intro
          obtain ⟨Rw, sw⟩ := R7.wipe (vs := vs) (fun v _ h => by cases h)
          rw [wE] at Rw sw
          have st : Stp ρ1 σ H1 (wipeR ρ6 vs) (L2.wipe σ vs) (upd H6 D (.lst (accV ++ [z]))) := by
            have a1 := s3.trans Q6.1
            refine ⟨fun b o e n => ?_, fun b o e => ?_, fun b o e y => a1.own b o e (by
              obtain ⟨j, d, w1, w2⟩ := y
              by_cases hj : j ∈ vs
              · exact (wipeR_in hj w1).elim
              · rw [wipeR_out hj] at w1
                rw [← wE] at w2
                exact ⟨j, d, w1, (wipe_some w2).1⟩)⟩
            · have hb : b ≠ D := ne_of_none e nD
              rw [upd_ne hb]; exact a1.keep b o e n
            · obtain ⟨o', e'⟩ := a1.all b o e
              by_cases hb : b = D
              · rw [hb]; exact ⟨_, upd_same⟩
              · exact ⟨o', by rw [upd_ne hb]; exact e'⟩
          exact ⟨wipeR ρ6 vs, accD ++ [r6.d], accV ++ [z], Rw, st, f3, upd_same, (Reps.append ((rA.mono Q6.1.keeps).mono kD) (.cons (v6.mono kD) .nil)).mono sw.keeps, wk.keeps _ _ _ _ (wk.keeps _ _ _ _ g3 (Q6.1.keeps)) (kD.trans sw.keeps)⟩
        · cases f3
    · have e : i = ds.length := by omega
      subst e
      rw [List.drop_length] at f3
      cases f3
      refine .inl ⟨wk.stops H2 _ g3, q _ H2 ⟨D, rfl, ?_, ?_, ?_, ?_⟩⟩
      all_goals obtain ⟨Ru, su, oS⟩ := R.unblk (c := c) (E := E) (E' := Add E D) R1 no R3 s3 (fun b o e y => y.elim id fun e' => by rw [e', nD] at e; cases e)
      · exact s1.trans su
      · cases w : H D with
        | none => rfl
        | some u => obtain ⟨u', e'⟩ := s1.all D u w; rw [nD] at e'; cases e'
      · exact Ru
      · refine ⟨accV, eD, rA.mono fun b o e n => ⟨e, fun y => n ?_⟩⟩
        rcases y with y | y
        · exact .inl y
        · rw [oS] at y; exact .inr y
end
end Z
namespace Z
open PySem PySem.Spec L2
open PyProof.Rows hiding St

/-! ## comprehensions of two clauses -/
def lcL2 (vs vs1 : List Nat) (g : SG) (t : MB) (fi1 : MIt) (g1 : SG) (t1 : MB) (f : ME) : List D → Rho → List D → Option (List D × Rho)
  | [], ρ, acc => some (acc, ρ)
  | d :: ds, ρ, acc => (g d ρ).bind fun ρ1 => (t ρ1).bind fun b => if b.1 then (fi1 b.2).bind fun r => (lcL vs1 g1 t1 f r.1 (wipeR r.2 vs1) acc).bind fun s => lcL2 vs vs1 g t fi1 g1 t1 f ds (wipeR s.2 vs) s.1
    else lcL2 vs vs1 g t fi1 g1 t1 f ds (wipeR b.2 vs) acc
def eLc2 (vs vs1 : List Nat) (fi : MIt) (g : SG) (t : MB) (fi1 : MIt) (g1 : SG) (t1 : MB) (f : ME) : ME := fun ρ => (fi ρ).bind fun r =>
  if vs.any (ownAt r.2) then none else (lcL2 vs vs1 g t fi1 g1 t1 f r.1 (wipeR r.2 vs) []).bind fun s => some (.o (.list s.1), backR r.2 s.2 vs)
theorem wipe_wipe {σ : L2.St} {vs vs1 : List Nat} (h : ∀ i ∈ vs1, i ∈ vs) : wipe (wipe σ vs1) vs = wipe σ vs :=
  wipe_same (vs := vs) ⟨wipe_length _ _, fun j hj => wipe_out fun h' => hj (h j h')⟩
section
variable {X : Cx} {pr vs tv : List Nat} {fi : MIt} {g : SG} {t : MB} {f : ME}
/-- the inner walk: what it adds to the list at D -/
theorem lc_in {c : Cn} {E : AS} {ρ1 : Rho} {σ σb : L2.St} {H1 : Hp} {D : Addr} {ds out : List PyData} {ρ2 : Rho} {J : It} {Gd : Hp → AS → Prop} {Nx : Hp → Prop} (hK : c.K = X.K) (hpr : c.pr = []) (hH0 : c.H0 = fun _ => none) (hE : E D) (nD : H1 D = none) (htv : ∀ i ∈ tv, i ∈ vs) (wk : WalkD c.K J ds Gd)
    {ρ0 : Rho} {H0 : Hp} {acc0 : List PyData} {accV0 : List V} (R0 : R c E ρ0 (L2.wipe σb vs) H0) (s0 : Stp ρ1 σ H1 ρ0 (L2.wipe σb vs) H0) (hf : lcL vs g t f ds ρ0 acc0 = some (out, ρ2)) (eD0 : H0 D = some (.lst accV0)) (rA0 : Reps c.K H0 (OE ρ0 (L2.wipe σb vs) E) acc0 accV0) (g0 : Gd H0 (OE ρ0 (L2.wipe σb vs) E))
    (fin : ∀ H' accV, R c E ρ2 (L2.wipe σb vs) H' → Stp ρ1 σ H1 ρ2 (L2.wipe σb vs) H' → Keeps H0 (OE ρ0 (L2.wipe σb vs) E) H' (OE ρ2 (L2.wipe σb vs) E) → H' D = some (.lst accV) → Reps c.K H' (OE ρ2 (L2.wipe σb vs) E) out accV → Nx H') :
    ∃ W1 : Nat → Nat → Hp → Prop, (∃ m, W1 0 m H0) ∧ ∀ j k H, W1 j k H → (J.stop j H ∧ Nx H) ∨ (J.go j H ∧ ∃ Nx1 : Hp → Prop, (∀ H', Nx1 H' → ∃ k', k' < k ∧ W1 (j + 1) k' H') ∧ ∀ x H', J.yld j H x H' → tG X [] tv g x (L2.wipe σb vs) H' fun σ3 H5 => L2.wipe σ3 vs = L2.wipe σb vs ∧ tT X t σ3 H5 fun b H6 =>
      if b = true then tE X f σ3 H6 fun y H7 => ∃ acc, H7 D = some (.lst acc) ∧ acc.length < sizeLine ∧ Nx1 (upd H7 D (.lst (acc ++ [y]))) else Nx1 H6) := by
  have ww : L2.wipe (L2.wipe σb vs) vs = L2.wipe σb vs := wipe_wipe fun _ h => h
  refine ⟨fun i m H2 => m = ds.length - i ∧ i ≤ ds.length ∧ ∃ ρ3 accD accV, R c E ρ3 (L2.wipe σb vs) H2 ∧ Stp ρ1 σ H1 ρ3 (L2.wipe σb vs) H2 ∧ Keeps H0 (OE ρ0 (L2.wipe σb vs) E) H2 (OE ρ3 (L2.wipe σb vs) E) ∧ lcL vs g t f (ds.drop i) ρ3 accD = some (out, ρ2) ∧ H2 D = some (.lst accV) ∧
    Reps c.K H2 (OE ρ3 (L2.wipe σb vs) E) accD accV ∧ Gd H2 (OE ρ3 (L2.wipe σb vs) E), ⟨ds.length, by simp, Nat.zero_le _, ρ0, acc0, accV0, R0, s0, fun b o h n => ⟨h, n⟩, hf, eD0, rA0, g0⟩, ?_⟩
  rintro i m H2 ⟨rfl, hi, ρ3, accD, accV, R3, s3, k3, f3, eD, rA, g3⟩
  by_cases hlt : i < ds.length
  · have ed : ds[i]? = some ds[i] := List.getElem?_eq_getElem hlt
    rw [List.drop_eq_getElem_cons hlt] at f3
    obtain ⟨ρ4, h4, f3⟩ := bindS f3
    obtain ⟨⟨b5, ρ5⟩, h5, f3⟩ := bindS f3
    refine .inr ⟨wk.goes i H2 _ hlt g3, fun H' => ∃ ρ3 accD accV, R c E ρ3 (L2.wipe σb vs) H' ∧ Stp ρ1 σ H1 ρ3 (L2.wipe σb vs) H' ∧ Keeps H0 (OE ρ0 (L2.wipe σb vs) E) H' (OE ρ3 (L2.wipe σb vs) E) ∧ lcL vs g t f (ds.drop (i + 1)) ρ3 accD = some (out, ρ2) ∧ H' D = some (.lst accV) ∧
      Reps c.K H' (OE ρ3 (L2.wipe σb vs) E) accD accV ∧ Gd H' (OE ρ3 (L2.wipe σb vs) E), fun H' h => ⟨ds.length - (i + 1), by omega, rfl, hlt, h⟩, fun x H3 y => ?_⟩
    obtain ⟨gr, rp⟩ := wk.yields i H2 _ x H3 _ ed g3 (oe_there R3) y
    have P3 : PostN c E ρ3 (L2.wipe σb vs) H2 ρ3 (L2.wipe σb vs) H3 := ⟨gr.stp, R3.grow gr⟩
    have wE : ∀ {σ4 : L2.St}, Same' tv (L2.wipe σb vs) σ4 → L2.wipe σ4 vs = L2.wipe σb vs := fun {σ4} sm => wipe_same (vs := vs) ⟨by rw [sm.1, wipe_length], fun j hj => by rw [sm.2 j fun h => hj (htv j h), wipe_out hj]⟩
    refine ⟨c, E, ρ3, ds[i], ρ4, hK, hpr, P3.2, rp, h4, fun σ4 H4 P4 sm => ⟨wE sm, ?_⟩⟩
    have wE := wE sm
    refine ⟨c, E, ρ4, b5, ρ5, hK, P4.2, h5, fun H5 P5 => ?_⟩
    have Q5 : PostN c E ρ3 (L2.wipe σb vs) H2 ρ5 σ4 H5 := (P3.trans P4).trans P5
    have nOD : ∀ {ρx : Rho} {σx : L2.St} {Hx : Hp}, R c E ρx σx Hx → ¬ OwnS ρx σx D := fun r y => r.own_not y hE
    have next : ∀ {ρx : Rho} {H' : Hp} {ad : List PyData} {av : List V}, PostN c E ρ3 (L2.wipe σb vs) H2 ρx σ4 H' → lcL vs g t f (ds.drop (i + 1)) (wipeR ρx vs) ad = some (out, ρ2) → H' D = some (.lst av) → Reps c.K H' (OE ρx σ4 E) ad av →
        ∃ ρ3 accD accV, R c E ρ3 (L2.wipe σb vs) H' ∧ Stp ρ1 σ H1 ρ3 (L2.wipe σb vs) H' ∧ Keeps H0 (OE ρ0 (L2.wipe σb vs) E) H' (OE ρ3 (L2.wipe σb vs) E) ∧ lcL vs g t f (ds.drop (i + 1)) ρ3 accD = some (out, ρ2) ∧ H' D = some (.lst accV) ∧
          Reps c.K H' (OE ρ3 (L2.wipe σb vs) E) accD accV ∧ Gd H' (OE ρ3 (L2.wipe σb vs) E) := fun {ρx H' ad av} P ff eD' rA' => by
      obtain ⟨Rw, sw⟩ := P.2.wipe (vs := vs) (fun v _ h => by rw [hpr] at h; cases h)
      rw [wE] at Rw sw
      exact ⟨wipeR ρx vs, ad, av, Rw, s3.trans (P.1.trans sw), k3.trans (P.1.trans sw).keeps, ff, eD', rA'.mono sw.keeps, wk.keeps _ _ _ _ g3 (P.1.trans sw).keeps⟩
    cases b5 with
    | false =>
      have f3 : lcL vs g t f (ds.drop (i + 1)) (wipeR ρ5 vs) accD = some (out, ρ2) := f3
      exact iteF (next Q5 f3 (Q5.1.keep D _ eD (nOD R3)) (rA.mono Q5.1.keeps))
    | true =>
      obtain ⟨⟨r6, ρ6⟩, h6, f3⟩ := bindS f3
      split at f3
      · rename_i hz
        refine iteT ⟨c, E, ρ5, r6, ρ6, hK, P5.2, h6, fun z H6 P6 => ?_⟩
        obtain ⟨s6, R6, v6⟩ := P6.pv P5.2
        have Q6 : PostN c E ρ3 (L2.wipe σb vs) H2 ρ6 σ4 H6 := Q5.trans ⟨s6, R6⟩
        have eD6 := Q6.1.keep D _ eD (nOD R3)
        have la : accD.length = accV.length := rA.length
        refine ⟨accV, eD6, by rw [sizeLine_eq, ← la]; exact of_decide_eq_true hz, ?_⟩
        have kD : Keeps H6 (OE ρ6 σ4 E) (upd H6 D (.lst (accV ++ [z]))) (OE ρ6 σ4 E) := fun b o e n => ⟨by rw [upd_ne (fun e' => n (.inl (by rw [e']; exact hE)))]; exact e, n⟩
        have R7 : R c E ρ6 σ4 (upd H6 D (.lst (accV ++ [z]))) := by
          have thr : ∀ b o, H6 b = some o → ∃ o', (upd H6 D (.lst (accV ++ [z]))) b = some o' := fun b o e => by
            by_cases hb : b = D
            · rw [hb]; exact ⟨_, upd_same⟩
            · exact ⟨o, by rw [upd_ne hb]; exact e⟩
          exact ⟨R6.len, fun j d w => let ⟨v, y1, y2⟩ := R6.val j d w; ⟨v, y1, y2.mono kD⟩, fun j d w => by
            obtain ⟨a, y1, y2, y3, y4⟩ := R6.own j d w
            exact ⟨a, y1, y2.mono kD (fun o e => by rw [upd_ne (fun e' => y3 (by rw [e']; exact hE))]; exact e), y3, y4⟩, R6.inj, fun b y => let ⟨o, e⟩ := R6.eal b y; thr b o e, (fun b o y => by rw [hH0] at y; cases y), R6.prt⟩
        obtain ⟨Rw, sw⟩ := R7.wipe (vs := vs) (fun v _ h => by rw [hpr] at h; cases h)
        rw [wE] at Rw sw
        have st : Stp ρ1 σ H1 (wipeR ρ6 vs) (L2.wipe σb vs) (upd H6 D (.lst (accV ++ [z]))) := by
          have a1 := s3.trans Q6.1
          refine ⟨fun b o e n => ?_, fun b o e => ?_, fun b o e y => a1.own b o e (by
            obtain ⟨j, d, w1, w2⟩ := y
            by_cases hj : j ∈ vs
            · exact (wipeR_in hj w1).elim
            · rw [wipeR_out hj] at w1
              rw [← wE] at w2
              exact ⟨j, d, w1, (wipe_some w2).1⟩)⟩
          · have hb : b ≠ D := ne_of_none e nD
            rw [upd_ne hb]; exact a1.keep b o e n
          · obtain ⟨o', e'⟩ := a1.all b o e
            by_cases hb : b = D
            · rw [hb]; exact ⟨_, upd_same⟩
            · exact ⟨o', by rw [upd_ne hb]; exact e'⟩
        exact ⟨wipeR ρ6 vs, accD ++ [r6.d], accV ++ [z], Rw, st, (k3.trans Q6.1.keeps).trans (kD.trans sw.keeps), f3, upd_same, (Reps.append ((rA.mono Q6.1.keeps).mono kD) (.cons (v6.mono kD) .nil)).mono sw.keeps, wk.keeps _ _ _ _ (wk.keeps _ _ _ _ g3 (Q6.1.keeps)) (kD.trans sw.keeps)⟩
      · cases f3
  · have e : i = ds.length := by omega
    subst e
    rw [List.drop_length] at f3
    cases f3
    exact .inl ⟨wk.stops H2 _ g3, fin H2 accV R3 s3 k3 eD rA⟩
variable {vs1 tv1 : List Nat} {fi1 : MIt} {g1 : SG} {t1 : MB}
theorem lc2_read {σ : L2.St} {H : Hp} {Q : VK} (hq : tE X (eLc2 vs vs1 fi g t fi1 g1 t1 f) σ H Q) (htv : ∀ i ∈ tv, i ∈ vs) (hv1 : ∀ i ∈ vs1, i ∈ vs) (htv1 : ∀ i ∈ tv1, i ∈ vs1) :
    tLc2 (tIt X fi) (tG X [] tv g) (tT X t) (tIt X fi1) (tG X [] tv1 g1) (tT X t1) (tE X f) vs vs1 σ H Q := by
  obtain ⟨c, E, ρ, rv, ρ', hK, hR, hf, q⟩ := hq
  obtain ⟨⟨ds, ρ1⟩, h1, hf⟩ := bindS hf
  split at hf
  · cases hf
  · rename_i no
    have no : ∀ v ∈ vs, ownAt ρ1 v = false := by
      intro v hv
      cases w : ownAt ρ1 v with
      | false => rfl
      | true => exact absurd (List.any_eq_true.mpr ⟨v, hv, w⟩) no
    obtain ⟨⟨out, ρ2⟩, h2, hf⟩ := bindS hf
    cases hf
    refine ⟨c, E, ρ, ds, ρ1, hK, hR, h1, fun J Gd H1 P1 wk gd1 D nD => ?_⟩
    obtain ⟨s1, R1⟩ := P1
    have nE : ¬ E D := fun y => by obtain ⟨o, e⟩ := R1.eal D y; rw [nD] at e; cases e
    have Ra : R c.blk (Add E D) ρ1 σ (upd H1 D (.lst [])) := (R1.add (o := .lst []) nD (Grow.upd nD) upd_same).blk
    obtain ⟨Rb, sb⟩ := Ra.wipe (vs := vs) (fun v _ h => by cases h)
    have g2 : Gd (upd H1 D (.lst [])) (OE (wipeR ρ1 vs) (L2.wipe σ vs) (Add E D)) := wk.keeps _ _ _ _ gd1 fun b o e n => ⟨by rw [upd_ne (ne_of_none e nD)]; exact e, fun y => by
      rcases y with (y | y) | y
      · exact n (.inl y)
      · rw [y, nD] at e; cases e
      · exact n (.inr (OwnS_wipe b y))⟩
    have s0 : Stp ρ1 σ H1 (wipeR ρ1 vs) (L2.wipe σ vs) (upd H1 D (.lst [])) := (Grow.upd nD).stp.trans sb
    refine ⟨fun i m H2 => m = ds.length - i ∧ i ≤ ds.length ∧ ∃ ρ3 accD accV, R c.blk (Add E D) ρ3 (L2.wipe σ vs) H2 ∧ Stp ρ1 σ H1 ρ3 (L2.wipe σ vs) H2 ∧ lcL2 vs vs1 g t fi1 g1 t1 f (ds.drop i) ρ3 accD = some (out, ρ2) ∧ H2 D = some (.lst accV) ∧
      Reps c.K H2 (OE ρ3 (L2.wipe σ vs) (Add E D)) accD accV ∧ Gd H2 (OE ρ3 (L2.wipe σ vs) (Add E D)), ⟨ds.length, by simp, Nat.zero_le _, wipeR ρ1 vs, [], [], Rb, s0, h2, upd_same, .nil, g2⟩, ?_⟩
    rintro i m H2 ⟨rfl, hi, ρ3, accD, accV, R3, s3, f3, eD, rA, g3⟩
    by_cases hlt : i < ds.length
    · have ed : ds[i]? = some ds[i] := List.getElem?_eq_getElem hlt
      rw [List.drop_eq_getElem_cons hlt] at f3
      obtain ⟨ρ4, h4, f3⟩ := bindS f3
      obtain ⟨⟨b5, ρ5⟩, h5, f3⟩ := bindS f3
      refine .inr ⟨wk.goes i H2 _ hlt g3, fun H' => ∃ ρ3 accD accV, R c.blk (Add E D) ρ3 (L2.wipe σ vs) H' ∧ Stp ρ1 σ H1 ρ3 (L2.wipe σ vs) H' ∧ lcL2 vs vs1 g t fi1 g1 t1 f (ds.drop (i + 1)) ρ3 accD = some (out, ρ2) ∧ H' D = some (.lst accV) ∧
        Reps c.K H' (OE ρ3 (L2.wipe σ vs) (Add E D)) accD accV ∧ Gd H' (OE ρ3 (L2.wipe σ vs) (Add E D)), fun H' h => ⟨ds.length - (i + 1), by omega, rfl, hlt, h⟩, fun x H3 y => ?_⟩
      obtain ⟨gr, rp⟩ := wk.yields i H2 _ x H3 _ ed g3 (oe_there R3) y
      have P3 : PostN c.blk (Add E D) ρ3 (L2.wipe σ vs) H2 ρ3 (L2.wipe σ vs) H3 := ⟨gr.stp, R3.grow gr⟩
      refine ⟨c.blk, Add E D, ρ3, ds[i], ρ4, hK, rfl, P3.2, rp, h4, fun σ4 H4 P4 sm => ⟨wipe_same (vs := vs) ⟨by rw [sm.1, wipe_length], fun j hj => by rw [sm.2 j fun h => hj (htv j h), wipe_out hj]⟩, ?_⟩⟩
      have wE : L2.wipe σ4 vs = L2.wipe σ vs := wipe_same (vs := vs) ⟨by rw [sm.1, wipe_length], fun j hj => by rw [sm.2 j fun h => hj (htv j h), wipe_out hj]⟩
      refine ⟨c.blk, Add E D, ρ4, b5, ρ5, hK, P4.2, h5, fun H5 P5 => ?_⟩
      have Q5 : PostN c.blk (Add E D) ρ3 (L2.wipe σ vs) H2 ρ5 σ4 H5 := (P3.trans P4).trans P5
      have nOD : ∀ {ρx : Rho} {σx : L2.St} {Hx : Hp}, R c.blk (Add E D) ρx σx Hx → ¬ OwnS ρx σx D := fun r y => r.own_not y (.inr rfl)
      cases b5 with
      | false =>
        have f3 : lcL2 vs vs1 g t fi1 g1 t1 f (ds.drop (i + 1)) (wipeR ρ5 vs) accD = some (out, ρ2) := f3
        obtain ⟨Rw, sw⟩ := Q5.2.wipe (vs := vs) (fun v _ h => by cases h)
        rw [wE] at Rw sw
        exact iteF ⟨wipeR ρ5 vs, accD, accV, Rw, s3.trans (Q5.1.trans sw), f3, Q5.1.keep D _ eD (nOD R3), (rA.mono Q5.1.keeps).mono sw.keeps, wk.keeps _ _ _ _ g3 (Q5.1.trans sw).keeps⟩
      | true =>
        obtain ⟨⟨ds1, ρ6⟩, h6, f3⟩ := bindS f3
        obtain ⟨⟨out1, ρ7⟩, h7, f3⟩ := bindS f3
        refine iteT ⟨c.blk, Add E D, ρ5, ds1, ρ6, hK, P5.2, h6, fun J1 Gd1 H6 P6 wk1 gd2 => ?_⟩
        have Q6 : PostN c.blk (Add E D) ρ3 (L2.wipe σ vs) H2 ρ6 σ4 H6 := Q5.trans P6
        obtain ⟨Rw, sw⟩ := P6.2.wipe (vs := vs1) (fun v _ h => by cases h)
        have www : L2.wipe (L2.wipe σ4 vs1) vs = L2.wipe σ vs := (wipe_wipe hv1).trans wE
        refine lc_in (X := X) (c := c.blk) (E := Add E D) (ρ1 := ρ1) (σ := σ) (σb := σ4) (H1 := H1) (vs := vs1) (tv := tv1) (g := g1) (t := t1) (f := f) hK rfl rfl (.inr rfl) nD htv1 wk1 Rw (s3.trans (Q6.1.trans sw)) h7 (Q6.1.keep D _ eD (nOD R3)) ((rA.mono Q6.1.keeps).mono sw.keeps) (wk1.keeps _ _ _ _ gd2 sw.keeps) fun H' accV' R8 s8 k8 eD8 rA8 => ?_
        obtain ⟨Rw9, sw9⟩ := R8.wipe (vs := vs) (fun v _ h => by cases h)
        rw [www] at Rw9 sw9
        exact ⟨wipeR ρ7 vs, out1, accV', Rw9, s8.trans sw9, f3, eD8, rA8.mono sw9.keeps, wk.keeps _ _ _ _ g3 (((Q6.1.trans sw).keeps.trans k8).trans sw9.keeps)⟩
    · have e : i = ds.length := by omega
      subst e
      rw [List.drop_length] at f3
      cases f3
      refine .inl ⟨wk.stops H2 _ g3, q _ H2 ⟨D, rfl, ?_, ?_, ?_, ?_⟩⟩
      all_goals obtain ⟨Ru, su, oS⟩ := R.unblk (c := c) (E := E) (E' := Add E D) R1 no R3 s3 (fun b o e y => y.elim id fun e' => by rw [e', nD] at e; cases e)
      · exact s1.trans su
      · cases w : H D with
        | none => rfl
        | some u => obtain ⟨u', e'⟩ := s1.all D u w; rw [nD] at e'; cases e'
      · exact Ru
      · refine ⟨accV, eD, rA.mono fun b o e n => ⟨e, fun y => n ?_⟩⟩
        rcases y with y | y
        · exact .inl y
        · rw [oS] at y; exact .inr y
end
end Z
namespace Z
open PySem PySem.Spec L2
open PyProof.Rows hiding St

/-! ## more expressions -/
def tyD : D → String
  | .none => "NoneType"
  | .bool _ => "bool"
  | .int _ => "int"
  | .str _ => "str"
  | .list _ => "list"
  | .tuple _ => "tuple"
  | .dict _ => "dict"
def knownTy : List String := ["int", "bool", "str", "list", "tuple", "dict"]
def isT (t T : String) : Bool := t == T || (t == "bool" && T == "int")
def isA (T : String) (d : D) : Bool := isT (tyD d) T
def isiD (Ts : List String) (d : D) : Bool := Ts.any fun T => isA T d
def allTy : List String := ["NoneType", "int", "bool", "str", "list", "tuple", "dict"]
theorem kit_all : (allTy.all fun t => knownTy.all fun T => decide (kitB t T = some (isT t T))) = true := by decide +kernel
theorem tyD_all (d : D) : tyD d ∈ allTy := by cases d <;> simp [tyD, allTy]
theorem kit_isA {K : PySem.W.Frag} (d : D) : ∀ T ∈ knownTy, PySem.W.kitOne K (.type (tyD d)) (.type T) = some (isA T d) := fun T hT =>
  kit_ty (of_decide_eq_true (List.all_eq_true.mp (List.all_eq_true.mp kit_all _ (tyD_all d)) T hT))
theorem kit_any {K : PySem.W.Frag} (d : D) : ∀ Ts : List String, (∀ T ∈ Ts, T ∈ knownTy) → PySem.W.kitAny K (.type (tyD d)) (Ts.map .type) = some (isiD Ts d)
  | [], _ => rfl
  | T :: Ts, h => by
    refine kitAny_cons (kit_isA d T (h T List.mem_cons_self)) (fun e => ?_) fun e => ?_
    · rw [kit_any d Ts fun U hU => h U (List.mem_cons_of_mem _ hU)]
      unfold isiD
      rw [List.any_cons, e, Bool.false_or]
    · unfold isiD
      rw [List.any_cons, e, Bool.true_or]
theorem ty_top {K : PySem.W.Frag} {H : Hp} {O : AS} {d : D} {x : V} (t : Top K H O d x) (hf : isFv d = false) : TyX K H x (.type (tyD d)) := by
  have lst : ∀ {a : Addr} {vs : List V}, SqL K H a vs → TyX K H (.ref a) (.type "list") := fun {a vs} h => by
    rcases h with (h | ⟨o, h⟩) | ⟨o, its, n, h, c, _⟩
    · exact .base (.lst h)
    · exact .base (.frz h)
    · exact .kList h c
  have tup : ∀ {a : Addr} {vs : List V}, SqT K H a vs → TyX K H (.ref a) (.type "tuple") := fun {a vs} h => by
    rcases h with (h | ⟨o, h⟩) | ⟨o, its, n, h, c, _⟩
    · exact .base (.tup h)
    · exact .fTuple h
    · exact .kTuple h c
  rcases t with t | ⟨a, rfl, t⟩
  · cases t with
    | non => exact .base .non
    | bl b => exact .base (.bl b)
    | int i => exact .base (.int i)
    | str s _ => exact .base (.str s)
    | lst l _ => exact lst l.sq
    | tup l _ => exact tup l.sq
    | dic l _ _ => exact .base (.dK l)
    | fnc e => cases hf
  · cases d with
    | list ds => obtain ⟨vs, e, _⟩ := t; exact .base (.lst e)
    | dict ds => obtain ⟨vs, e, _⟩ := t; exact .base (.dK e)
    | _ => exact (show False from t).elim
def eIsi (Ts : List String) (fo : MO) : ME := fun ρ => (fo ρ).bind fun r => (r.1.get r.2).bind fun d => if isFv d then none else some (.v (.bool (isiD Ts d)), r.2)
/-- the classes' names -/
def tTys (Ts : List String) : TA := fun _ H Q => Q (Ts.map .ty) H

section
variable {X : Cx} {e a b : Expr} {es : List Expr} {fo : MO} {f : ME} {fs : MOs} {pos p : Pos}
theorem zt_nil : PA X [] (tTys []) := ⟨fun pos pins s σ H Q I h => pa_nil.run pos pins s σ H Q I h⟩
theorem zt_cons {T : String} {Ts : List String} (h1 : PE X e (tC (.ty T))) (h2 : PA X es (tTys Ts)) (hs : starEach (e :: es) X.env = (false, eval e X.env) :: starEach es X.env) : PA X (e :: es) (tTys (T :: Ts)) :=
  ⟨fun pos pins s σ H Q I h => (pa_cons h1 h2 hs).run pos pins s σ H Q I h⟩
theorem isi_read {σ : L2.St} {H : Hp} {Q : VK} {Ts : List String} {r : V → List V → Hp → VK → Prop} (hq : tE X (eIsi Ts fo) σ H Q)
    (h : ∀ (O : AS) (d : D) (z : V) (H1 : Hp), Top X.K H1 O d z → isFv d = false → (∀ H' , Grow H1 H' → Q (.bl (isiD Ts d)) H') → r z [] H1 Q) : tOpd X fo σ H fun z H1 => r z [] H1 Q := by
  obtain ⟨c, E, ρ, rv, ρ', hK, hR, hf, q⟩ := hq
  obtain ⟨⟨p1, ρ1⟩, h1, hf⟩ := bindS hf
  obtain ⟨d, h2, hf⟩ := bindS hf
  split at hf
  · cases hf
  · rename_i hn
    cases hf
    exact ⟨c, E, ρ, p1, ρ1, hK, hR, h1, fun z H1 P1 => h (OE ρ1 σ E) d z H1 (by rw [← hK]; exact P1.top Stp.rfl P1.2.1 h2) (by simpa using hn) fun H' g => q _ H' ⟨P1.1.trans g.stp, P1.2.1.grow g, .bl _⟩⟩
theorem zpe_isi1 {T : String} (hT : T ∈ knownTy) (hg : Gl X "isinstance") (hm : X.mg "isinstance" = none) (ha : PE X a (tOpd X fo)) (hb : PE X b (tC (.ty T)))
    (h1 : starEach [a, b] X.env = (false, eval a X.env) :: starEach [b] X.env) (h2 : starEach [b] X.env = (false, eval b X.env) :: starEach [] X.env) (hpl : (backTo pos (starEach [b] X.env)).any (·.1) = false) :
    PE X (.Call (.Name "isinstance" p) [a, b] [] pos) (tE X (eIsi [T] fo)) := by
  refine ⟨fun pins s σ H Q I hq => (pe_callB call_isi hg hm (by decide +kernel) (pa_cons ha (pa_cons hb pa_nil h2) h1) (by decide) (by decide) h1 hpl).run pins s σ H Q I ?_⟩
  refine isi_read (r := fun z _ H1 Q => tC (.ty T) σ H1 fun y H2 => rIsi X.K [z, y] H2 Q) hq fun O d z H1 t hn q => ?_
  refine ⟨z, .ty T, .type (tyD d), .type T, isA T d, rfl, .ty T, ty_top t hn, kit_isA d T hT, ?_⟩
  have e : isA T d = isiD [T] d := by unfold isiD; simp
  rw [e]; exact q H1 Grow.rfl
theorem zpe_isiT {Ts : List String} {kk : Nat} {tp : Pos} (hT : ∀ T ∈ Ts, T ∈ knownTy) (hz : szb Ts.length = true) (hg : Gl X "isinstance") (hm : X.mg "isinstance" = none) (ha : PE X a (tOpd X fo)) (hb : PA X es (tTys Ts))
    (h1 : starEach [a, .Tuple es kk tp] X.env = (false, eval a X.env) :: starEach [.Tuple es kk tp] X.env) (h2 : starEach [.Tuple es kk tp] X.env = (false, eval (.Tuple es kk tp) X.env) :: starEach [] X.env) (hpl : (backTo pos (starEach [.Tuple es kk tp] X.env)).any (·.1) = false) :
    PE X (.Call (.Name "isinstance" p) [a, .Tuple es kk tp] [] pos) (tE X (eIsi Ts fo)) := by
  refine ⟨fun pins s σ H Q I hq => (pe_callB call_isiT hg hm (by decide +kernel) (pa_cons ha (pa_cons (pe_tup hb) pa_nil h2) h1) (by decide) (by decide) h1 hpl).run pins s σ H Q I ?_⟩
  refine isi_read (r := fun z _ H1 Q => tTup (tTys Ts) σ H1 fun y H2 => rIsiT X.K [z, y] H2 Q) hq fun O d z H1 t hn q => ?_
  refine ⟨by rw [List.length_map]; exact szb_ok hz, fun P nP => ⟨z, P, Ts.map .ty, .type (tyD d), Ts.map .type, isiD Ts d, rfl, upd_same, ?_, ?_, kit_any d Ts hT, q _ (Grow.upd nP)⟩⟩
  · clear hT hz hb h1 h2 hpl q hq
    induction Ts with
    | nil => exact .nil
    | cons T Ts ih => exact .cons (.ty T) ih
  · have gr : Grow H1 (upd H1 P (.tup (Ts.map .ty))) := Grow.upd nP
    have t' : Top X.K (upd H1 P (.tup (Ts.map .ty))) O d z := t.elim (fun r => .inl (r.mono gr.keeps)) fun ⟨a, e, r⟩ => .inr ⟨a, e, r.mono gr.keeps (gr a)⟩
    exact ty_top t' hn
/-! own defs -/
theorem zpe_call {F : FnS} {fs : MAs} {x : Str} {k : Nat} {f0 : Addr} {fd : FuncData} {ps : List Str} (Fo : FnOk X.prog X.w X.K X.mg X.base CX0 k f0 fd ps (spF X.K F)) (hr : Room k X.A) (hg : Gl X x) (hm : X.mg x = some (.ref f0)) (hk : PySem.W.keepIn X.K (.ref f0) = true) (hb : Binds X.K fd ps [])
    (ha : PA X (e :: es) (tAs X fs)) (hdb : (x == ("__debug__" : Str)) = false) (he : starEach (e :: es) X.env = (false, eval e X.env) :: starEach es X.env) (hpl : (backTo pos (starEach es X.env)).any (·.1) = false) :
    PE X (.Call (.Name x p) (e :: es) [] pos) (tE X (eCall F fs)) :=
  ⟨fun pins s σ H Q I hq => (pe_call (E := E0) Fo hr hg hm hk hb .nil pass0 ha hdb he hpl).run pins s σ H Q I (call_read hq)⟩
theorem zpe_call0 {F : FnS} {x : Str} {k : Nat} {f0 : Addr} {fd : FuncData} {ps : List Str} (Fo : FnOk X.prog X.w X.K X.mg X.base CX0 k f0 fd ps (spF X.K F)) (hr : Room k X.A) (hg : Gl X x) (hm : X.mg x = some (.ref f0)) (hk : PySem.W.keepIn X.K (.ref f0) = true) (hb : Binds X.K fd ps [])
    (hdb : (x == ("__debug__" : Str)) = false) : PE X (.Call (.Name x p) [] [] pos) (tE X (eCall F aNil)) := by
  refine ⟨fun pins s σ H Q I hq => (pe_call0 (E := E0) Fo hr hg hm hk hb .nil pass0 hdb).run pins s σ H Q I ?_⟩
  obtain ⟨c, E, ρ, p1, ρ1, hK, hR, h1, h2⟩ := call_read hq
  cases h1
  have h1 : R c (AddL E []) ρ σ H := by rw [AddL_nil]; exact hR
  have h3 : ArAt c (AddL E []) ρ σ H [] [] [] := by unfold ArAt; exact True.intro
  exact h2 [] [] H ⟨Stp.rfl, h1, h3, (fun a h => by cases h), List.nodup_nil⟩
/-! comprehensions -/
theorem zpe_lc {elt tg iter : Expr} {ifs : List Expr} {scope : Scope} {own : List (Str × Nat)} {tv : List Nat} {fi : MIt} {g : SG} {t : MB} (hc : X.calm = true) (hN : X.N.Nodup) (hi : PI X tg iter (tIt X fi)) (ok : BlkOk X.N X.env.scope scope own)
    (hg : ∀ (s : Shared) (H : Hp) (C : Addr) (cl : List (Str × Addr)) (fp : List Addr), PG (X.blk s H scope (compEnvC scope cl C X.env) fp) tg (tG (X.blk s H scope (compEnvC scope cl C X.env) fp) [] tv g))
    (ht : ∀ (s : Shared) (H : Hp) (C : Addr) (cl : List (Str × Addr)) (fp : List Addr), PTs (X.blk s H scope (compEnvC scope cl C X.env) fp) ifs (tT (X.blk s H scope (compEnvC scope cl C X.env) fp) t))
    (he : ∀ (s : Shared) (H : Hp) (C : Addr) (cl : List (Str × Addr)) (fp : List Addr), PE (X.blk s H scope (compEnvC scope cl C X.env) fp) elt (tE (X.blk s H scope (compEnvC scope cl C X.env) fp) f))
    (hs : ∀ x, foldedSetIterable iter X.env x = pure x) (htv : ∀ i ∈ tv, i ∈ own.map (·.2)) : PE X (.ListComp elt [⟨tg, iter, ifs, 0⟩] scope pos) (tE X (eLc (own.map (·.2)) fi g t f)) :=
  ⟨fun pins s σ H Q I hq => (pe_lc (te := tE X f) (tt := tT X t) (g := tG X [] tv g) hc hN hi ok hg ht he hs).run pins s σ H Q I (lc_read hq htv)⟩
theorem zs_setLc {i : Nat} {y : Str} {py spos : Pos} {pr : List Nat} {elt tg iter : Expr} {ifs : List Expr} {scope : Scope} {own : List (Str × Nat)} {tv : List Nat} {fi : MIt} {g : SG} {t : MB} (hc : X.calm = true) (hN : X.N.Nodup) (hy : X.N[i]? = some y) (hyl : X.env.scope.names.lookup y = some .local)
    (hsw : swapsWith (.ListComp elt [⟨tg, iter, ifs, 0⟩] scope pos) (some (.Name y py)) spos.line X.env = pure true) (hi : PI X tg iter (tIt X fi)) (ok : BlkOk X.N X.env.scope scope own)
    (hg : ∀ (s : Shared) (H : Hp) (C : Addr) (cl : List (Str × Addr)) (fp : List Addr), PG (X.blk s H scope (compEnvC scope cl C X.env) fp) tg (tG (X.blk s H scope (compEnvC scope cl C X.env) fp) [] tv g))
    (ht : ∀ (s : Shared) (H : Hp) (C : Addr) (cl : List (Str × Addr)) (fp : List Addr), PTs (X.blk s H scope (compEnvC scope cl C X.env) fp) ifs (tT (X.blk s H scope (compEnvC scope cl C X.env) fp) t))
    (he : ∀ (s : Shared) (H : Hp) (C : Addr) (cl : List (Str × Addr)) (fp : List Addr), PE (X.blk s H scope (compEnvC scope cl C X.env) fp) elt (tE (X.blk s H scope (compEnvC scope cl C X.env) fp) f))
    (hs : ∀ x, foldedSetIterable iter X.env x = pure x) (htv : ∀ i ∈ tv, i ∈ own.map (·.2)) : PS X (.Assign [.Name y py] (.ListComp elt [⟨tg, iter, ifs, 0⟩] scope pos) spos) (tS X pr (sSet pr i (eLc (own.map (·.2)) fi g t f))) := by
  refine ⟨fun pins s σ H Dd I hq => (ps_setLc (te := tE X f) (tt := tT X t) (g := tG X [] tv g) hc hN hy hyl hsw hi ok hg ht he hs).run pins s σ H Dd I ?_⟩
  obtain ⟨c, E, ρ, out, ρ', hK, hp, hR, hf, q⟩ := hq
  unfold sSet at hf
  split at hf
  · cases hf
  · rename_i np
    obtain ⟨⟨rv, ρ1⟩, h1, hf⟩ := bindS hf
    cases hf
    exact lc_read (tv := tv) ⟨c, E, ρ, rv, ρ1, hK, hR, h1, fun z H1 P1 => q _ H1 (post_set hR P1 (by rw [hp]; exact ncont np))⟩ htv
theorem zpe_lc2 {elt tg iter tg1 iter1 : Expr} {ifs ifs1 : List Expr} {scope : Scope} {own : List (Str × Nat)} {tv vs1 : List Nat} {fi fi1 : MIt} {g g1 : SG} {t t1 : MB} (hc : X.calm = true) (hN : X.N.Nodup) (hi : PI X tg iter (tIt X fi)) (ok : BlkOk X.N X.env.scope scope own) (hv : ∀ i ∈ vs1, i ∈ own.map (·.2))
    (hg : ∀ (s : Shared) (H : Hp) (C : Addr) (cl : List (Str × Addr)) (fp : List Addr), PG (X.blk s H scope (compEnvC scope cl C X.env) fp) tg (tG (X.blk s H scope (compEnvC scope cl C X.env) fp) [] tv g))
    (ht : ∀ (s : Shared) (H : Hp) (C : Addr) (cl : List (Str × Addr)) (fp : List Addr), PTs (X.blk s H scope (compEnvC scope cl C X.env) fp) ifs (tT (X.blk s H scope (compEnvC scope cl C X.env) fp) t))
    (hi1 : ∀ (s : Shared) (H : Hp) (C : Addr) (cl : List (Str × Addr)) (fp : List Addr), PI (X.blk s H scope (compEnvC scope cl C X.env) fp) tg1 iter1 (tIt (X.blk s H scope (compEnvC scope cl C X.env) fp) fi1))
    (hg1 : ∀ (s : Shared) (H : Hp) (C : Addr) (cl : List (Str × Addr)) (fp : List Addr), PG (X.blk s H scope (compEnvC scope cl C X.env) fp) tg1 (tG (X.blk s H scope (compEnvC scope cl C X.env) fp) [] vs1 g1))
    (ht1 : ∀ (s : Shared) (H : Hp) (C : Addr) (cl : List (Str × Addr)) (fp : List Addr), PTs (X.blk s H scope (compEnvC scope cl C X.env) fp) ifs1 (tT (X.blk s H scope (compEnvC scope cl C X.env) fp) t1))
    (he : ∀ (s : Shared) (H : Hp) (C : Addr) (cl : List (Str × Addr)) (fp : List Addr), PE (X.blk s H scope (compEnvC scope cl C X.env) fp) elt (tE (X.blk s H scope (compEnvC scope cl C X.env) fp) f))
    (hs : ∀ x, foldedSetIterable iter X.env x = pure x) (hs1 : ∀ env x, foldedSetIterable iter1 env x = pure x) (htv : ∀ i ∈ tv, i ∈ own.map (·.2)) : PE X (.ListComp elt [⟨tg, iter, ifs, 0⟩, ⟨tg1, iter1, ifs1, 0⟩] scope pos) (tE X (eLc2 (own.map (·.2)) vs1 fi g t fi1 g1 t1 f)) :=
  ⟨fun pins s σ H Q I hq => (pe_lc2 (te := tE X f) (tt := tT X t) (g := tG X [] tv g) (wi1 := tIt X fi1) (tt1 := tT X t1) (g1 := tG X [] vs1 g1) hc hN hi ok hv hg ht hi1 hg1 ht1 he hs hs1).run pins s σ H Q I (lc2_read hq htv hv fun _ h => h)⟩
theorem zs_setLc2 {i : Nat} {y : Str} {py spos : Pos} {pr : List Nat} {elt tg iter tg1 iter1 : Expr} {ifs ifs1 : List Expr} {scope : Scope} {own : List (Str × Nat)} {tv vs1 : List Nat} {fi fi1 : MIt} {g g1 : SG} {t t1 : MB} (hc : X.calm = true) (hN : X.N.Nodup) (hy : X.N[i]? = some y) (hyl : X.env.scope.names.lookup y = some .local)
    (hsw : swapsWith (.ListComp elt [⟨tg, iter, ifs, 0⟩, ⟨tg1, iter1, ifs1, 0⟩] scope pos) (some (.Name y py)) spos.line X.env = pure true) (hi : PI X tg iter (tIt X fi)) (ok : BlkOk X.N X.env.scope scope own) (hv : ∀ i ∈ vs1, i ∈ own.map (·.2))
    (hg : ∀ (s : Shared) (H : Hp) (C : Addr) (cl : List (Str × Addr)) (fp : List Addr), PG (X.blk s H scope (compEnvC scope cl C X.env) fp) tg (tG (X.blk s H scope (compEnvC scope cl C X.env) fp) [] tv g))
    (ht : ∀ (s : Shared) (H : Hp) (C : Addr) (cl : List (Str × Addr)) (fp : List Addr), PTs (X.blk s H scope (compEnvC scope cl C X.env) fp) ifs (tT (X.blk s H scope (compEnvC scope cl C X.env) fp) t))
    (hi1 : ∀ (s : Shared) (H : Hp) (C : Addr) (cl : List (Str × Addr)) (fp : List Addr), PI (X.blk s H scope (compEnvC scope cl C X.env) fp) tg1 iter1 (tIt (X.blk s H scope (compEnvC scope cl C X.env) fp) fi1))
    (hg1 : ∀ (s : Shared) (H : Hp) (C : Addr) (cl : List (Str × Addr)) (fp : List Addr), PG (X.blk s H scope (compEnvC scope cl C X.env) fp) tg1 (tG (X.blk s H scope (compEnvC scope cl C X.env) fp) [] vs1 g1))
    (ht1 : ∀ (s : Shared) (H : Hp) (C : Addr) (cl : List (Str × Addr)) (fp : List Addr), PTs (X.blk s H scope (compEnvC scope cl C X.env) fp) ifs1 (tT (X.blk s H scope (compEnvC scope cl C X.env) fp) t1))
    (he : ∀ (s : Shared) (H : Hp) (C : Addr) (cl : List (Str × Addr)) (fp : List Addr), PE (X.blk s H scope (compEnvC scope cl C X.env) fp) elt (tE (X.blk s H scope (compEnvC scope cl C X.env) fp) f))
    (hs : ∀ x, foldedSetIterable iter X.env x = pure x) (hs1 : ∀ env x, foldedSetIterable iter1 env x = pure x) (htv : ∀ i ∈ tv, i ∈ own.map (·.2)) : PS X (.Assign [.Name y py] (.ListComp elt [⟨tg, iter, ifs, 0⟩, ⟨tg1, iter1, ifs1, 0⟩] scope pos) spos) (tS X pr (sSet pr i (eLc2 (own.map (·.2)) vs1 fi g t fi1 g1 t1 f))) := by
  refine ⟨fun pins s σ H Dd I hq => (ps_setLc2 (te := tE X f) (tt := tT X t) (g := tG X [] tv g) (wi1 := tIt X fi1) (tt1 := tT X t1) (g1 := tG X [] vs1 g1) hc hN hy hyl hsw hi ok hv hg ht hi1 hg1 ht1 he hs hs1).run pins s σ H Dd I ?_⟩
  obtain ⟨c, E, ρ, out, ρ', hK, hp, hR, hf, q⟩ := hq
  unfold sSet at hf
  split at hf
  · cases hf
  · rename_i np
    obtain ⟨⟨rv, ρ1⟩, h1, hf⟩ := bindS hf
    cases hf
    exact lc2_read (tv := tv) (tv1 := vs1) ⟨c, E, ρ, rv, ρ1, hK, hR, h1, fun z H1 P1 => q _ H1 (post_set hR P1 (by rw [hp]; exact ncont np))⟩ htv hv fun _ h => h
theorem zts_nil : PTs X [] (tT X bYes) := by
  refine ⟨fun pins s σ H Q I hq => pts_nil.run pins s σ H Q I ?_⟩
  obtain ⟨c, E, ρ, b, ρ', hK, hR, hf, q⟩ := hq
  cases hf
  exact q H ⟨Stp.rfl, hR⟩
/-! lists that grow and shrink -/
def lastD (ds : List D) : Option D := ds[ds.length - 1]?
def eApp (i : Nat) (f : ME) : ME := fun ρ => match slot ρ i with
  | some (.list _) => (f ρ).bind fun r => match r.2[i]? with
    | some (some (.o (.list ds))) => if decide (ds.length < 16777216) then some (.v .none, r.2.set i (some (.o (.list (ds ++ [r.1.d]))))) else none
    | _ => none
  | _ => none
def ePop (i : Nat) : ME := fun ρ => match ρ[i]? with
  | some (some (.o (.list ds))) => (lastD ds).bind fun d => some (.v d, ρ.set i (some (.o (.list ds.dropLast))))
  | _ => none
theorem Reps.dropLast {K : PySem.W.Frag} {H : Hp} {O : AS} {ds : List D} {vs : List V} (r : Reps K H O ds vs) : Reps K H O ds.dropLast vs.dropLast := by
  rw [List.dropLast_eq_take, List.dropLast_eq_take, ← r.length]
  exact r.take _
theorem zpe_app {i : Nat} {o : Expr} {apos : Pos} (ho : PE X o (tVar i)) (ha : PE X a (tE X f)) (hbase : attributeBase o "append" X.env (eval o X.env) = eval o X.env)
    (hfew : ((backTo pos (starEach [a] X.env)).all (fun x => !x.1) && (backToKw pos (keywordEach [] X.env)).all (fun x => x.1.isSome)
      && decide (([a] : List Expr).length + ([] : List Keyword).length + (if ([] : List Keyword).isEmpty then 0 else 1) < 30)) = true)
    (hline : (apos.endLine == pos.line) = true) (hs : starEach [a] X.env = (false, eval a X.env) :: starEach [] X.env) (hplain : (backTo pos (starEach [] X.env)).any (·.1) = false) :
    PE X (.Call (.Attribute o "append" apos) [a] [] pos) (tE X (eApp i f)) := by
  refine ⟨fun pins s σ H Q I hq => (pe_bm PySem.F.plainAttrs_list PySem.F.slot_list_append PySem.F.type_list_append mt_append ho (pa_cons ha pa_nil hs) hbase hfew hline hs hplain).run pins s σ H Q I ?_⟩
  obtain ⟨c, E, ρ, rv, ρ', hK, hR, hf, q⟩ := hq
  unfold eApp at hf
  split at hf
  · rename_i ds0 h0
    obtain ⟨z, hz⟩ := hR.slot_some h0
    obtain ⟨⟨r1, ρ1⟩, h1, hf⟩ := bindS hf
    split at hf
    · rename_i ds hds
      split at hf
      · rename_i hz2
        cases hf
        have t0 := hR.top h0 hz
        obtain ⟨a0, vs0, rfl, sq0, _⟩ := t0.list
        refine ⟨_, hz, .inl ⟨rfl, vs0, by rw [← hK]; exact sq0⟩, c, E, ρ, r1, ρ1, hK, hR, h1, fun y H1 P1 => ?_⟩
        obtain ⟨s1, R1, v1⟩ := P1.pv hR
        obtain ⟨x, x1, ⟨vs, x2, x3⟩, _⟩ := R1.own i _ hds
        rw [hz] at x1
        cases x1
        refine ⟨a0, vs, y, rfl, rfl, x2, by rw [sizeLine_eq, ← x3.length]; exact of_decide_eq_true hz2, ?_⟩
        have k := keeps_upd (c := c) (E := E) (H := H1) (o := .lst (vs ++ [y])) ⟨i, _, hds, hz⟩
        obtain ⟨R2, s2⟩ := R1.chg (d' := .list (ds ++ [r1.d])) (H' := upd H1 a0 (.lst (vs ++ [y]))) hds hz (fun b o hb w => by rw [upd_ne hb]; exact w)
          ⟨_, upd_same, (x3.mono k).append (.cons (v1.mono k) .nil)⟩
        exact q _ _ ⟨s1.trans s2, R2, .non⟩
      · cases hf
    · cases hf
  · cases hf
theorem zpe_pop {i : Nat} {o : Expr} {apos : Pos} (ho : PE X o (tVar i)) (hbase : attributeBase o "pop" X.env (eval o X.env) = eval o X.env) (hline : (apos.endLine == pos.line) = true) :
    PE X (.Call (.Attribute o "pop" apos) [] [] pos) (tE X (ePop i)) := by
  refine ⟨fun pins s σ H Q I hq => (pe_bm0 PySem.F.plainAttrs_list PySem.F.slot_list_pop PySem.F.type_list_pop mt_pop ho hbase hline).run pins s σ H Q I ?_⟩
  obtain ⟨c, E, ρ, rv, ρ', hK, hR, hf, q⟩ := hq
  unfold ePop at hf
  split at hf
  · rename_i ds hds
    obtain ⟨d, h1, hf⟩ := bindS hf
    cases hf
    obtain ⟨a0, hz, ⟨vs, x2, x3⟩, _⟩ := hR.own i _ hds
    unfold lastD at h1
    obtain ⟨y, y1, y2⟩ := x3.get h1
    refine ⟨_, hz, .inl ⟨rfl, vs, .inl (.inl x2)⟩, a0, vs, y, rfl, rfl, x2, by rw [← x3.length]; exact y1, ?_⟩
    have k := keeps_upd (c := c) (E := E) (H := H) (o := .lst vs.dropLast) ⟨i, _, hds, hz⟩
    obtain ⟨R2, s2⟩ := hR.chg (d' := .list ds.dropLast) (H' := upd H a0 (.lst vs.dropLast)) hds hz (fun b o hb w => by rw [upd_ne hb]; exact w)
      ⟨_, upd_same, (x3.mono k).dropLast⟩
    exact q _ _ ⟨s2, R2, y2.mono s2.keeps⟩
  · cases hf
def ePopAt (i : Nat) (f : ME) : ME := fun ρ => match slot ρ i with
  | some (.list _) => (f ρ).bind fun r => (asI r.1).bind fun j => match r.2[i]? with
    | some (some (.o (.list ds))) => if in62 j then (seqIndex? j ds.length).bind fun k => ds[k]?.bind fun d => some (.v d, r.2.set i (some (.o (.list (ds.eraseIdx k))))) else none
    | _ => none
  | _ => none
theorem Reps.erase {K : PySem.W.Frag} {H : Hp} {O : AS} : ∀ {ds : List D} {vs : List V} (k : Nat), Reps K H O ds vs → Reps K H O (ds.eraseIdx k) (vs.eraseIdx k)
  | _, _, _, .nil => .nil
  | _, _, 0, .cons _ t => t
  | _, _, k + 1, .cons a t => .cons a (Reps.erase k t)
theorem zpe_popAt {i : Nat} {o : Expr} {apos : Pos} (ho : PE X o (tVar i)) (ha : PE X a (tE X f)) (hbase : attributeBase o "pop" X.env (eval o X.env) = eval o X.env)
    (hfew : ((backTo pos (starEach [a] X.env)).all (fun x => !x.1) && (backToKw pos (keywordEach [] X.env)).all (fun x => x.1.isSome)
      && decide (([a] : List Expr).length + ([] : List Keyword).length + (if ([] : List Keyword).isEmpty then 0 else 1) < 30)) = true)
    (hline : (apos.endLine == pos.line) = true) (hs : starEach [a] X.env = (false, eval a X.env) :: starEach [] X.env) (hplain : (backTo pos (starEach [] X.env)).any (·.1) = false) :
    PE X (.Call (.Attribute o "pop" apos) [a] [] pos) (tE X (ePopAt i f)) := by
  refine ⟨fun pins s σ H Q I hq => (pe_bm PySem.F.plainAttrs_list PySem.F.slot_list_pop PySem.F.type_list_pop mt_popAt ho (pa_cons ha pa_nil hs) hbase hfew hline hs hplain).run pins s σ H Q I ?_⟩
  obtain ⟨c, E, ρ, rv, ρ', hK, hR, hf, q⟩ := hq
  unfold ePopAt at hf
  split at hf
  · rename_i ds0 h0
    obtain ⟨z, hz⟩ := hR.slot_some h0
    obtain ⟨⟨r1, ρ1⟩, h1, hf⟩ := bindS hf
    obtain ⟨j, hj, hf⟩ := bindS hf
    split at hf
    · rename_i ds hds
      split at hf
      · rename_i hc
        obtain ⟨k, hk, hf⟩ := bindS hf
        obtain ⟨d, hd, hf⟩ := bindS hf
        cases hf
        have t0 := hR.top h0 hz
        obtain ⟨a0, vs0, rfl, sq0, _⟩ := t0.list
        have ej := asI_ok hj
        subst ej
        refine ⟨_, hz, .inl ⟨rfl, vs0, by rw [← hK]; exact sq0⟩, c, E, ρ, .v (.int j), ρ1, hK, hR, h1, fun y H1 P1 => ?_⟩
        obtain ⟨s1, R1, v1⟩ := P1.v
        cases v1
        obtain ⟨x, x1, ⟨vs, x2, x3⟩, _⟩ := R1.own i _ hds
        rw [hz] at x1
        cases x1
        have hl := x3.length
        obtain ⟨y, y1, y2⟩ := x3.get hd
        have hc : j.natAbs < 4611686018427387904 := of_decide_eq_true hc
        refine ⟨a0, vs, j, k, y, rfl, rfl, x2, by omega, by omega, by rw [← hl]; exact hk, y1, ?_⟩
        have kp := keeps_upd (c := c) (E := E) (H := H1) (o := .lst (vs.eraseIdx k)) ⟨i, _, hds, hz⟩
        obtain ⟨R2, s2⟩ := R1.chg (d' := .list (ds.eraseIdx k)) (H' := upd H1 a0 (.lst (vs.eraseIdx k))) hds hz (fun b o hb w => by rw [upd_ne hb]; exact w)
          ⟨_, upd_same, (x3.mono kp).erase k⟩
        exact q _ _ ⟨s1.trans s2, R2, y2.mono s2.keeps⟩
      · cases hf
    · cases hf
  · cases hf
/-- the first place of an equal one -/
def fstEq : List D → D → Option Nat
  | [], _ => none
  | z :: r, d => if PyData.eqv z d then some 0 else (fstEq r d).map (· + 1)
theorem fstEq_ok {d : D} : ∀ {ds : List D} {j : Nat}, fstEq ds d = some j → ∃ z, ds[j]? = some z ∧ PyData.eqv z d = true ∧ ∀ (m : Nat) (z' : D), m < j → ds[m]? = some z' → PyData.eqv z' d = false
  | [], _, h => by cases h
  | z :: r, j, h => by
    rw [fstEq] at h
    split at h
    · rename_i q
      cases h
      exact ⟨z, rfl, q, fun m _ hm => absurd hm (by omega)⟩
    · rename_i q
      cases k : fstEq r d with
      | none => rw [k] at h; cases h
      | some i =>
        rw [k] at h
        cases h
        obtain ⟨w, h1, h2, h3⟩ := fstEq_ok k
        refine ⟨w, by rw [List.getElem?_cons_succ]; exact h1, h2, fun m z' hm e => ?_⟩
        cases m with
        | zero =>
          rw [List.getElem?_cons_zero] at e
          cases e
          exact Bool.eq_false_iff.mpr q
        | succ m =>
          rw [List.getElem?_cons_succ] at e
          exact h3 m z' (Nat.lt_of_succ_lt_succ hm) e
def valV : RV → Option D
  | .v d => some d
  | .o _ => none
theorem valV_ok {rv : RV} {d : D} (h : valV rv = some d) : rv = .v d := by
  cases rv with
  | v x => cases h; rfl
  | o x => cases h
def eIdx (i : Nat) (f : ME) : ME := fun ρ => match slot ρ i with
  | some (.list _) => (f ρ).bind fun r => (valV r.1).bind fun k => match slot r.2 i with
    | some (.list ds) => if okE k && okE (.list ds) then (fstEq ds k).bind fun j => some (.v (.int (j : Nat)), r.2) else none
    | _ => none
  | _ => none
theorem zpe_idx (hu : X.A.units + 66 < cLine) {i : Nat} {o : Expr} {apos : Pos} (ho : PE X o (tVar i)) (ha : PE X a (tE X f)) (hbase : attributeBase o "index" X.env (eval o X.env) = eval o X.env)
    (hfew : ((backTo pos (starEach [a] X.env)).all (fun x => !x.1) && (backToKw pos (keywordEach [] X.env)).all (fun x => x.1.isSome)
      && decide (([a] : List Expr).length + ([] : List Keyword).length + (if ([] : List Keyword).isEmpty then 0 else 1) < 30)) = true)
    (hline : (apos.endLine == pos.line) = true) (hs : starEach [a] X.env = (false, eval a X.env) :: starEach [] X.env) (hplain : (backTo pos (starEach [] X.env)).any (·.1) = false) :
    PE X (.Call (.Attribute o "index" apos) [a] [] pos) (tE X (eIdx i f)) := by
  refine ⟨fun pins s σ H Q I hq => (pe_bm PySem.F.plainAttrs_list PySem.F.slot_list_index PySem.F.type_list_index (mt_indexD (X := X) (Nat.lt_of_succ_lt hu)) ho (pa_cons ha pa_nil hs) hbase hfew hline hs hplain).run pins s σ H Q I ?_⟩
  obtain ⟨c, E, ρ, rv, ρ', hK, hR, hf, q⟩ := hq
  unfold eIdx at hf
  split at hf
  · rename_i ds0 h0
    obtain ⟨z, hz⟩ := hR.slot_some h0
    obtain ⟨⟨r1, ρ1⟩, h1, hf⟩ := bindS hf
    obtain ⟨k, hj, hf⟩ := bindS hf
    split at hf
    · rename_i ds hds
      split at hf
      · rename_i hc
        rw [Bool.and_eq_true] at hc
        obtain ⟨j, hk, hf⟩ := bindS hf
        cases hf
        obtain ⟨a0, vs0, rfl, sq0, _⟩ := (hR.top h0 hz).list
        have ej := valV_ok hj
        dsimp only at ej hds
        subst ej
        refine ⟨_, hz, .inl ⟨rfl, vs0, by rw [← hK]; exact sq0⟩, c, E, ρ, .v k, ρ1, hK, hR, h1, fun y H1 P1 => ?_⟩
        obtain ⟨s1, R1, v1⟩ := P1.v
        have t1 := R1.top hds hz
        obtain ⟨_, l1, d1, p1⟩ := okE_ok hc.2 t1
        obtain ⟨_, l2, d2, p2⟩ := okE_ok hc.1 (.inl v1 : Top c.K H1 (OE ρ1 σ E) k y)
        obtain ⟨w, w1, w2, w3⟩ := fstEq_ok hk
        have sh : ∀ d : D, d.canLay0 = true → d.depth ≤ 60 → SeqAt.shaped d = true := fun d a b => by
          unfold SeqAt.shaped
          rw [a, decide_eq_true (show d.depth ≤ 64 by omega)]; rfl
        exact ⟨a0, y, k, ds, j, w, rfl, rfl, by rw [← hK]; exact p1, by rw [← hK]; exact p2, sh _ l1 d1, sh _ l2 d2, w1, w2, w3, q _ _ ⟨s1, R1, .int _⟩⟩
      · cases hf
    · cases hf
  · cases hf
end
end Z
namespace Z
open PySem PySem.Spec L2
open PyProof.Rows hiding St

/-! ## values kept as they come; names stored side by side -/
def rvA : RV → AR
  | .v d => .tv d
  | .o d => .ow d
def aRv (f : ME) (g : MAs) : MAs := fun ρ => (f ρ).bind fun r => (g r.2).bind fun s => some (rvA r.1 :: s.1, s.2)
def rvOf : AR → Option RV
  | .tv d => some (.v d)
  | .ow d => some (.o d)
  | .sl _ => none
def rvsOf : List AR → Option (List RV)
  | [] => some []
  | p :: ps => (rvOf p).bind fun r => (rvsOf ps).bind fun rs => some (r :: rs)
def putRs : List Nat → List RV → Rho → Option Rho
  | [], [], ρ => some ρ
  | i :: is, rv :: rvs, ρ => putRs is rvs (ρ.set i (some rv))
  | _, _, _ => none
def sPar (pr is : List Nat) (f : MAs) : SS := fun ρ => if is.any pr.contains then none else (f ρ).bind fun r => (rvsOf r.1).bind fun rvs => (putRs is rvs r.2).bind fun ρ2 => some (.nx, ρ2)
def RsAt (K : PySem.W.Frag) (H : Hp) (O : AS) : List RV → List V → List Addr → Prop
  | [], [], [] => True
  | .v d :: ps, z :: zs, as => Rep K H O d z ∧ RsAt K H O ps zs as
  | .o d :: ps, z :: zs, a :: as => z = .ref a ∧ OwnAt K H O d a ∧ RsAt K H O ps zs as
  | _, _, _ => False
def setAll : List Nat → List V → L2.St → L2.St
  | i :: is, z :: zs, σ => setAll is zs (σ.set i (some z))
  | _, _, σ => σ
section
variable {X : Cx} {e : Expr} {es : List Expr} {f : ME} {g : MAs} {pos : Pos}
theorem za_rv (ha : PE X e (tE X f)) (hr : PA X es (tAs X g)) (hs : starEach (e :: es) X.env = (false, eval e X.env) :: starEach es X.env) : PA X (e :: es) (tAs X (aRv f g)) := by
  refine ⟨fun pos pins s σ H Q I hq => ?_⟩
  obtain ⟨c, E, ρ, p, ρ', hK, hR, hf, q⟩ := hq
  obtain ⟨⟨rv, ρ1⟩, h1, hf2⟩ := bindS hf
  cases rv with
  | v d => exact (za_tv ha hr hs).run pos pins s σ H Q I ⟨c, E, ρ, p, ρ', hK, hR, by unfold aTv; rw [h1]; exact hf2, q⟩
  | o d => exact (za_ow ha hr hs).run pos pins s σ H Q I ⟨c, E, ρ, p, ρ', hK, hR, by unfold aOw; rw [h1]; exact hf2, q⟩
theorem RsAt.mono {K : PySem.W.Frag} {H : Hp} {O O' : AS} (k : Keeps H O H O') : ∀ {ps : List RV} {zs : List V} {as : List Addr}, RsAt K H O ps zs as → RsAt K H O' ps zs as
  | [], [], [], _ => True.intro
  | .v d :: ps, z :: zs, as, h => ⟨h.1.mono k, RsAt.mono k h.2⟩
  | .o d :: ps, z :: zs, a :: as, h => ⟨h.1, h.2.1.mono k (fun _ q => q), RsAt.mono k h.2.2⟩
  | [], [], _ :: _, h => by cases h
  | [], _ :: _, _, h => by cases h
  | .v _ :: _, [], _, h => by cases h
  | .o _ :: _, [], _, h => by cases h
  | .o _ :: _, _ :: _, [], h => by cases h
theorem rs_at {c : Cn} {E : AS} {ρ : Rho} {σ : L2.St} {H : Hp} : ∀ {ps : List AR} {zs : List V} {as : List Addr} {rvs : List RV}, ArAt c E ρ σ H ps zs as → rvsOf ps = some rvs → RsAt c.K H (OE ρ σ E) rvs zs as
  | [], [], [], rvs, _, e => by cases e; exact True.intro
  | .tv d :: ps, z :: zs, as, rvs, h, e => by
    obtain ⟨r, e1, e⟩ := bindS e
    obtain ⟨rs, e2, e⟩ := bindS e
    cases e1; cases e
    exact ⟨h.1, rs_at h.2 e2⟩
  | .ow d :: ps, z :: zs, a :: as, rvs, h, e => by
    obtain ⟨r, e1, e⟩ := bindS e
    obtain ⟨rs, e2, e⟩ := bindS e
    cases e1; cases e
    exact ⟨h.1, h.2.1, rs_at h.2.2 e2⟩
  | .sl i :: ps, zs, as, rvs, h, e => by
    obtain ⟨r, e1, e⟩ := bindS e
    cases e1
  | [], [], _ :: _, _, h, _ => by cases h
  | [], _ :: _, _, _, h, _ => by cases h
  | .tv _ :: _, [], _, _, h, _ => by cases h
  | .ow _ :: _, [], _, _, h, _ => by cases h
  | .ow _ :: _, _ :: _, [], _, h, _ => by cases h
theorem Add_AddL {E : AS} {a : Addr} {as : List Addr} : Add (AddL E as) a = AddL E (a :: as) := by
  funext b; apply propext; constructor
  · rintro ((h | h) | h)
    · exact .inl h
    · exact .inr (List.mem_cons_of_mem _ h)
    · exact .inr (by rw [h]; exact List.mem_cons_self)
  · rintro (h | h)
    · exact .inl (.inl h)
    · rcases List.mem_cons.mp h with h | h
      · exact .inr h
      · exact .inl (.inr h)
theorem put_rs {c : Cn} {E : AS} {H : Hp} : ∀ {is : List Nat} {rvs : List RV} {zs : List V} {as : List Addr} {ρ ρ2 : Rho} {σ : L2.St}, R c (AddL E as) ρ σ H → RsAt c.K H (OE ρ σ (AddL E as)) rvs zs as → (∀ a ∈ as, ¬ E a ∧ c.H0 a = none) → as.Nodup → (∀ i ∈ is, i ∉ c.pr) → putRs is rvs ρ = some ρ2 →
    R c E ρ2 (setAll is zs σ) H ∧ ∀ b, OwnS ρ2 (setAll is zs σ) b → b ∈ as ∨ OwnS ρ σ b
  | [], [], [], [], ρ, ρ2, σ, r, _, _, _, _, e => by
    cases e
    rw [AddL_nil] at r
    exact ⟨r, fun b h => .inr h⟩
  | i :: is, .v d :: rvs, z :: zs, as, ρ, ρ2, σ, r, h, ha, nd, np, e => by
    obtain ⟨r1, s1⟩ := r.setV (i := i) h.1 (np i List.mem_cons_self)
    obtain ⟨g1, g2⟩ := put_rs r1 (h.2.mono s1.keeps) ha nd (fun j hj => np j (List.mem_cons_of_mem _ hj)) e
    refine ⟨g1, fun b hb => ?_⟩
    rcases g2 b hb with q | q
    · exact .inl q
    · obtain ⟨o, ho⟩ := r1.own_there q
      exact .inr (s1.own b o ho q)
  | i :: is, .o d :: rvs, z :: zs, a :: as, ρ, ρ2, σ, r, h, ha, nd, np, e => by
    obtain ⟨h1, h2, h3⟩ := h
    subst h1
    have nd' := List.nodup_cons.mp nd
    have r : R c (Add (AddL E as) a) ρ σ H := by rw [Add_AddL]; exact r
    obtain ⟨r1, s1⟩ := r.setO (i := i) (d := d) (by rw [Add_AddL]; exact h2) (fun y => y.elim (ha a List.mem_cons_self).1 nd'.1) (ha a List.mem_cons_self).2 (np i List.mem_cons_self)
    have k : Keeps H (OE ρ σ (AddL E (a :: as))) H (OE (ρ.set i (some (.o d))) (σ.set i (some (.ref a))) (AddL E as)) := fun b o q n => ⟨q, fun y => n (by
      rcases y with (y | y) | y
      · exact .inl (.inl y)
      · exact .inl (.inr (List.mem_cons_of_mem _ y))
      · rcases s1 b y with y | y
        · exact .inl (.inr (by rw [y]; exact List.mem_cons_self))
        · exact .inr y)⟩
    obtain ⟨g1, g2⟩ := put_rs r1 (h3.mono k) (fun b hb => ha b (List.mem_cons_of_mem _ hb)) nd'.2 (fun j hj => np j (List.mem_cons_of_mem _ hj)) e
    refine ⟨g1, fun b hb => ?_⟩
    rcases g2 b hb with q | q
    · exact .inl (List.mem_cons_of_mem _ q)
    · rcases s1 b q with q | q
      · exact .inl (by rw [q]; exact List.mem_cons_self)
      · exact .inr q
  | [], _ :: _, _, _, _, _, _, _, _, _, _, _, e => by cases e
  | _ :: _, [], _, _, _, _, _, _, _, _, _, _, e => by cases e
  | [], [], _ :: _, _, _, _, _, _, h, _, _, _, _ => by cases h
  | [], [], [], _ :: _, _, _, _, _, h, _, _, _, _ => by cases h
  | _ :: _, .v _ :: _, [], _, _, _, _, _, h, _, _, _, _ => by cases h
  | _ :: _, .o _ :: _, [], _, _, _, _, _, h, _, _, _, _ => by cases h
  | _ :: _, .o _ :: _, _ :: _, [], _, _, _, _, h, _, _, _, _ => by cases h
theorem rs_len {K : PySem.W.Frag} {H : Hp} {O : AS} : ∀ {ps : List RV} {zs : List V} {as : List Addr}, RsAt K H O ps zs as → ps.length = zs.length
  | [], [], [], _ => rfl
  | .v d :: ps, z :: zs, as, h => by simp [rs_len h.2]
  | .o d :: ps, z :: zs, a :: as, h => by simp [rs_len h.2.2]
  | [], [], _ :: _, h => by cases h
  | [], _ :: _, _, h => by cases h
  | .v _ :: _, [], _, h => by cases h
  | .o _ :: _, [], _, h => by cases h
  | .o _ :: _, _ :: _, [], h => by cases h
theorem putRs_len : ∀ {is : List Nat} {rvs : List RV} {ρ ρ2 : Rho}, putRs is rvs ρ = some ρ2 → is.length = rvs.length
  | [], [], _, _, _ => rfl
  | _ :: is, _ :: rvs, _, _, h => by simp [putRs_len (is := is) (rvs := rvs) h]
  | [], _ :: _, _, _, h => by cases h
  | _ :: _, [], _, _, h => by cases h
theorem par_read {pr is : List Nat} {f : MAs} {Dd : Ends} {σ : L2.St} {H : Hp} (hq : tS X pr (sPar pr is f) Dd σ H) : tAs X f σ H fun zs H1 => zs.length = is.length ∧ Dd.nx (setAll is zs σ) H1 := by
  obtain ⟨c, E, ρ, out, ρ', hK, hp, hR, hf, q⟩ := hq
  unfold sPar at hf
  split at hf
  · cases hf
  · rename_i np
    obtain ⟨⟨ps, ρ1⟩, h1, hf⟩ := bindS hf
    obtain ⟨rvs, h2, hf⟩ := bindS hf
    obtain ⟨ρ2, h3, hf⟩ := bindS hf
    cases hf
    refine ⟨c, E, ρ, ps, ρ1, hK, hR, h1, fun zs as H1 ⟨s1, r1, a1, n1, nd⟩ => ?_⟩
    have ra := rs_at a1 h2
    have np' : ∀ i ∈ is, i ∉ c.pr := fun i hi hj => np (List.any_eq_true.mpr ⟨i, hi, by rw [hp] at hj; simpa using hj⟩)
    obtain ⟨g1, g2⟩ := put_rs r1 ra (fun a ha => PostE.nE (ρ1 := ρ1) (H1 := H1) hR (n1 a ha)) nd np' h3
    refine ⟨by rw [← rs_len ra]; exact (putRs_len h3).symm, q _ H1 ⟨⟨s1.keep, s1.all, fun b o hb y => ?_⟩, g1⟩⟩
    rcases g2 b y with y | y
    · rw [n1 b y] at hb; cases hb
    · exact s1.own b o hb y
theorem zs_par {i j : Nat} {x y : Str} {a b : Expr} {f : MAs} {pr : List Nat} {px py pt : Pos} {kt k2 : Nat} {pt2 : Pos} (hc : X.calm = true) (hN : X.N.Nodup) (hi : X.N[i]? = some x) (hj : X.N[j]? = some y) (hij : i ≠ j)
    (hx : X.env.scope.names.lookup x = some .local) (hy : X.env.scope.names.lookup y = some .local) (ha : PA X [a, b] (tAs X f))
    (hw : swappedStores [.Tuple [.Name x px, .Name y py] kt pt] (.Tuple [a, b] k2 pt2) X.env = pure (some [x, y])) :
    PS X (.Assign [.Tuple [.Name x px, .Name y py] kt pt] (.Tuple [a, b] k2 pt2) pos) (tS X pr (sPar pr [i, j] f)) := by
  refine ⟨fun pins s σ H Dd I hq => (ps_par hc hN hi hj hij hx hy ha hw rfl).run pins s σ H Dd I ?_⟩
  obtain ⟨c, E, ρ, ps, ρ1, hK, hR, h1, h2⟩ := par_read hq
  refine ⟨c, E, ρ, ps, ρ1, hK, hR, h1, fun zs as H1 p => ?_⟩
  obtain ⟨l, n⟩ := h2 zs as H1 p
  match zs, l, n with
  | [v, w], _, n => exact ⟨v, w, rfl, n⟩
theorem zs_par3 {i j l : Nat} {x y z : Str} {a b c : Expr} {f : MAs} {pr : List Nat} {px py pz pt : Pos} {kt k2 : Nat} {pt2 : Pos} (hc : X.calm = true) (hN : X.N.Nodup) (hi : X.N[i]? = some x) (hj : X.N[j]? = some y) (hl : X.N[l]? = some z) (hij : i ≠ j) (hil : i ≠ l) (hjl : j ≠ l)
    (hx : X.env.scope.names.lookup x = some .local) (hy : X.env.scope.names.lookup y = some .local) (hz : X.env.scope.names.lookup z = some .local) (ha : PA X [a, b, c] (tAs X f))
    (hw : swappedStores [.Tuple [.Name x px, .Name y py, .Name z pz] kt pt] (.Tuple [a, b, c] k2 pt2) X.env = pure (some [x, y, z])) :
    PS X (.Assign [.Tuple [.Name x px, .Name y py, .Name z pz] kt pt] (.Tuple [a, b, c] k2 pt2) pos) (tS X pr (sPar pr [i, j, l] f)) := by
  refine ⟨fun pins s σ H Dd I hq => (ps_par3 hc hN hi hj hl hij hil hjl hx hy hz ha hw rfl).run pins s σ H Dd I ?_⟩
  obtain ⟨c, E, ρ, ps, ρ1, hK, hR, h1, h2⟩ := par_read hq
  refine ⟨c, E, ρ, ps, ρ1, hK, hR, h1, fun zs as H1 p => ?_⟩
  obtain ⟨l, n⟩ := h2 zs as H1 p
  match zs, l, n with
  | [v, w, u], _, n => exact ⟨v, w, u, rfl, n⟩
end

/-! four names at once: the tuple is made, then taken apart -/
section
variable {X : Cx}
theorem par_read_tup {pr is : List Nat} {f : MAs} {Dd : Ends} {σ : L2.St} {H : Hp} (hq : tS X pr (sPar pr is f) Dd σ H) : tAs X f σ H fun zs H1 => zs.length = is.length ∧ ∀ p, H1 p = none → Dd.nx (setAll is zs σ) (upd H1 p (.tup zs)) := by
  obtain ⟨c, E, ρ, out, ρ', hK, hp, hR, hf, q⟩ := hq
  unfold sPar at hf
  split at hf
  · cases hf
  · rename_i np
    obtain ⟨⟨ps, ρ1⟩, h1, hf⟩ := bindS hf
    obtain ⟨rvs, h2, hf⟩ := bindS hf
    obtain ⟨ρ2, h3, hf⟩ := bindS hf
    cases hf
    refine ⟨c, E, ρ, ps, ρ1, hK, hR, h1, fun zs as H1 ⟨s1, r1, a1, n1, nd⟩ => ?_⟩
    have ra := rs_at a1 h2
    have np' : ∀ i ∈ is, i ∉ c.pr := fun i hi hj => np (List.any_eq_true.mpr ⟨i, hi, by rw [hp] at hj; simpa using hj⟩)
    obtain ⟨g1, g2⟩ := put_rs r1 ra (fun a ha => PostE.nE (ρ1 := ρ1) (H1 := H1) hR (n1 a ha)) nd np' h3
    refine ⟨by rw [← rs_len ra]; exact (putRs_len h3).symm, fun p np => q _ _ ⟨⟨fun b o hb y => Grow.upd np b o (s1.keep b o hb y), fun b o hb => ?_, fun b o hb y => ?_⟩, g1.grow (Grow.upd np)⟩⟩
    · obtain ⟨o2, h⟩ := s1.all b o hb
      exact ⟨o2, Grow.upd np b o2 h⟩
    · rcases g2 b y with y | y
      · rw [n1 b y] at hb; cases hb
      · exact s1.own b o hb y
theorem zs_par4 {i j l m : Nat} {x y z w : Str} {a b c d : Expr} {f : MAs} {pr : List Nat} {px py pz pw pt : Pos} {kt k2 : Nat} {pt2 pos : Pos} (hc : X.calm = true) (hN : X.N.Nodup) (hi : X.N[i]? = some x) (hj : X.N[j]? = some y) (hl : X.N[l]? = some z) (hm : X.N[m]? = some w)
    (hx : X.env.scope.names.lookup x = some .local) (hy : X.env.scope.names.lookup y = some .local) (hz : X.env.scope.names.lookup z = some .local) (hww : X.env.scope.names.lookup w = some .local) (ha : PA X [a, b, c, d] (tAs X f))
    (hw : swappedStores [.Tuple [.Name x px, .Name y py, .Name z pz, .Name w pw] kt pt] (.Tuple [a, b, c, d] k2 pt2) X.env = pure none) :
    PS X (.Assign [.Tuple [.Name x px, .Name y py, .Name z pz, .Name w pw] kt pt] (.Tuple [a, b, c, d] k2 pt2) pos) (tS X pr (sPar pr [i, j, l, m] f)) := by
  have p1 := pg_name (X := X) (pos := px) hN hi (.inl hx) (.inr hx)
  have p2 := pg_name (X := X) (pos := py) hN hj (.inl hy) (.inr hy)
  have p3 := pg_name (X := X) (pos := pz) hN hl (.inl hz) (.inr hz)
  have p4 := pg_name (X := X) (pos := pw) hN hm (.inl hww) (.inr hww)
  refine ⟨fun pins s σ H Dd I hq => (ps_asg (pe_tup ha) (pg_tup (n := 4) hc (pgs_cons p1 (pgs_cons p2 (pgs_cons p3 (pgs_cons p4 pgs_nil))))) rfl hw).run pins s σ H Dd I ?_⟩
  obtain ⟨c, E, ρ, ps, ρ1, hK, hR, h1, h2⟩ := par_read_tup hq
  refine ⟨c, E, ρ, ps, ρ1, hK, hR, h1, fun zs as H1 p => ?_⟩
  obtain ⟨l, n⟩ := h2 zs as H1 p
  match zs, l, n with
  | [v1, v2, v3, v4], _, n => exact ⟨by show 4 ≤ sizeLine; decide, fun q hq => ⟨q, [v1, v2, v3, v4], rfl, .inl (.inl upd_same), rfl, v1, _, rfl, v2, _, rfl, v3, _, rfl, v4, _, rfl, rfl, n q hq⟩⟩
/-- two names, three names, the tuple made and taken apart -/
theorem zs_par2t {i j : Nat} {x y : Str} {a b : Expr} {f : MAs} {pr : List Nat} {px py pt : Pos} {kt k2 : Nat} {pt2 pos : Pos} (hc : X.calm = true) (p1 : PG X (.Name x px) (gName i)) (p2 : PG X (.Name y py) (gName j)) (ha : PA X [a, b] (tAs X f))
    (hw : swappedStores [.Tuple [.Name x px, .Name y py] kt pt] (.Tuple [a, b] k2 pt2) X.env = pure none) :
    PS X (.Assign [.Tuple [.Name x px, .Name y py] kt pt] (.Tuple [a, b] k2 pt2) pos) (tS X pr (sPar pr [i, j] f)) := by
  refine ⟨fun pins s σ H Dd I hq => (ps_asg (pe_tup ha) (pg_tup (n := 2) hc (pgs_cons p1 (pgs_cons p2 pgs_nil))) rfl hw).run pins s σ H Dd I ?_⟩
  obtain ⟨c, E, ρ, ps, ρ1, hK, hR, h1, h2⟩ := par_read_tup hq
  refine ⟨c, E, ρ, ps, ρ1, hK, hR, h1, fun zs as H1 p => ?_⟩
  obtain ⟨l, n⟩ := h2 zs as H1 p
  match zs, l, n with
  | [v1, v2], _, n => exact ⟨by show 2 ≤ sizeLine; decide, fun q hq => ⟨q, [v1, v2], rfl, .inl (.inl upd_same), rfl, v1, _, rfl, v2, _, rfl, rfl, n q hq⟩⟩
theorem zs_par3t {i j l : Nat} {x y z : Str} {a b c : Expr} {f : MAs} {pr : List Nat} {px py pz pt : Pos} {kt k2 : Nat} {pt2 pos : Pos} (hc : X.calm = true) (p1 : PG X (.Name x px) (gName i)) (p2 : PG X (.Name y py) (gName j)) (p3 : PG X (.Name z pz) (gName l)) (ha : PA X [a, b, c] (tAs X f))
    (hw : swappedStores [.Tuple [.Name x px, .Name y py, .Name z pz] kt pt] (.Tuple [a, b, c] k2 pt2) X.env = pure none) :
    PS X (.Assign [.Tuple [.Name x px, .Name y py, .Name z pz] kt pt] (.Tuple [a, b, c] k2 pt2) pos) (tS X pr (sPar pr [i, j, l] f)) := by
  refine ⟨fun pins s σ H Dd I hq => (ps_asg (pe_tup ha) (pg_tup (n := 3) hc (pgs_cons p1 (pgs_cons p2 (pgs_cons p3 pgs_nil)))) rfl hw).run pins s σ H Dd I ?_⟩
  obtain ⟨c, E, ρ, ps, ρ1, hK, hR, h1, h2⟩ := par_read_tup hq
  refine ⟨c, E, ρ, ps, ρ1, hK, hR, h1, fun zs as H1 p => ?_⟩
  obtain ⟨l, n⟩ := h2 zs as H1 p
  match zs, l, n with
  | [v1, v2, v3], _, n => exact ⟨by show 3 ≤ sizeLine; decide, fun q hq => ⟨q, [v1, v2, v3], rfl, .inl (.inl upd_same), rfl, v1, _, rfl, v2, _, rfl, v3, _, rfl, rfl, n q hq⟩⟩
end

/-! ## list(range(..)), tuple(range(..)) -/
def mkRg (lst : Bool) (a b : Int) : Option RV := if in62 a && in62 b && szb (b - a).toNat then some (if lst then .o (.list (upTo a (b - a).toNat)) else .v (.tuple (upTo a (b - a).toNat))) else none
def eRg1 (lst : Bool) (fa : ME) : ME := fun ρ => (fa ρ).bind fun r => (asI r.1).bind fun n => (mkRg lst 0 n).bind fun z => some (z, r.2)
def eRg2 (lst : Bool) (fa fb : ME) : ME := fun ρ => (fa ρ).bind fun r => (asI r.1).bind fun m => (fb r.2).bind fun s => (asI s.1).bind fun n => (mkRg lst m n).bind fun z => some (z, s.2)
theorem reps_map {K : PySem.W.Frag} {H : Hp} {O : AS} {f : Nat → D} {g : Nat → V} (h : ∀ i, Rep K H O (f i) (g i)) : ∀ l : List Nat, Reps K H O (l.map f) (l.map g)
  | [] => .nil
  | i :: l => .cons (h i) (reps_map h l)
theorem reps_rg {K : PySem.W.Frag} {H : Hp} {O : AS} {a b : Int} : Reps K H O (upTo a (b - a).toNat) (rgV a b) := reps_map (fun i => .int _) _
section
variable {X : Cx} {a b : Expr} {fa fb : ME} {p p2 pos pos2 : Pos}
theorem int_read {c : Cn} {E : AS} {ρ ρ1 : Rho} {σ : L2.St} {H H1 : Hp} {z : V} {rv : RV} {i : Int} (h : asI rv = some i) (P : PostE c E ρ σ H ρ1 H1 rv z) : z = .int i ∧ Stp ρ σ H ρ1 σ H1 ∧ R c E ρ1 σ H1 := by
  have e := asI_ok h
  subst e
  obtain ⟨s1, r1, p1⟩ := P.v
  cases p1
  exact ⟨rfl, s1, r1⟩
theorem rg_end {lst : Bool} {c : Cn} {E : AS} {ρ ρ1 : Rho} {σ : L2.St} {H H1 : Hp} {m n : Int} {rv : RV} {Q : VK} (s1 : Stp ρ σ H ρ1 σ H1) (R1 : R c E ρ1 σ H1) (h : mkRg lst m n = some rv) (q : ∀ z H', PostE c E ρ σ H ρ1 H' rv z → Q z H') :
    RgOk m n ∧ ∀ x, H1 x = none → Q (.ref x) (upd H1 x (if lst then .lst (rgV m n) else .tup (rgV m n))) := by
  unfold mkRg at h
  split at h
  · rename_i hc
    simp only [Bool.and_eq_true] at hc
    obtain ⟨⟨c1, c2⟩, c3⟩ := hc
    obtain ⟨i1, i2⟩ := in62_ok c1
    obtain ⟨i3, i4⟩ := in62_ok c2
    cases h
    refine ⟨⟨i1, i2, i3, i4, of_decide_eq_true c3⟩, fun x nx => ?_⟩
    cases lst with
    | true => exact q _ _ (ResB.post s1 R1 (resLst reps_rg nx))
    | false => exact q _ _ (ResB.post s1 R1 (resTup (oe_there R1) reps_rg nx))
  · cases h
theorem rg1_read {lst : Bool} {σ : L2.St} {H : Hp} {Q : VK} (hq : tE X (eRg1 lst fa) σ H Q) : tRg1 (tE X fa) σ H fun m n H1 => RgOk m n ∧ ∀ x, H1 x = none → Q (.ref x) (upd H1 x (if lst then .lst (rgV m n) else .tup (rgV m n))) := by
  obtain ⟨c, E, ρ, rv, ρ', hK, hR, hf, q⟩ := hq
  obtain ⟨⟨r1, ρ1⟩, h1, hf⟩ := bindS hf
  obtain ⟨n, h2, hf⟩ := bindS hf
  obtain ⟨z, h3, hf⟩ := bindS hf
  cases hf
  refine ⟨c, E, ρ, r1, ρ1, hK, hR, h1, fun z H1 P1 => ?_⟩
  obtain ⟨rfl, s1, R1⟩ := int_read h2 P1
  exact ⟨n, rfl, rg_end s1 R1 h3 q⟩
theorem rg2_read {lst : Bool} {σ : L2.St} {H : Hp} {Q : VK} (hq : tE X (eRg2 lst fa fb) σ H Q) : tRg2 (tE X fa) (tE X fb) σ H fun m n H1 => RgOk m n ∧ ∀ x, H1 x = none → Q (.ref x) (upd H1 x (if lst then .lst (rgV m n) else .tup (rgV m n))) := by
  obtain ⟨c, E, ρ, rv, ρ', hK, hR, hf, q⟩ := hq
  obtain ⟨⟨r1, ρ1⟩, h1, hf⟩ := bindS hf
  obtain ⟨m, h2, hf⟩ := bindS hf
  obtain ⟨⟨r2, ρ2⟩, h3, hf⟩ := bindS hf
  obtain ⟨n, h4, hf⟩ := bindS hf
  obtain ⟨z, h5, hf⟩ := bindS hf
  cases hf
  refine ⟨c, E, ρ, r1, ρ1, hK, hR, h1, fun z H1 P1 => ?_⟩
  obtain ⟨rfl, s1, R1⟩ := int_read h2 P1
  refine ⟨c, E, ρ1, r2, _, hK, R1, h3, fun z H2 P2 => ?_⟩
  obtain ⟨rfl, s2, R2⟩ := int_read h4 P2
  exact ⟨m, n, rfl, rfl, rg_end (s1.trans s2) R2 h5 q⟩
theorem zpe_rg1 {lst : Bool} {T : Str} (hT : T = (if lst then ("list" : Str) else "tuple")) (hc : X.calm = true) (hg : Gl X T) (hm : X.mg T = none) (hg2 : Gl X "range") (hm2 : X.mg "range" = none) (ha : PE X a (tE X fa)) (na : starEach [a] X.env = (false, eval a X.env) :: starEach [] X.env) :
    PE X (.Call (.Name T p) [.Call (.Name "range" p2) [a] [] pos2] [] pos) (tE X (eRg1 lst fa)) := by
  cases lst with
  | true => subst hT; exact ⟨fun pins s σ H Q I hq => (pe_listRg hc hg hm (prg_1 hg2 hm2 ha na) rfl).run pins s σ H Q I (rg1_read hq)⟩
  | false => subst hT; exact ⟨fun pins s σ H Q I hq => (pe_tupRg hc hg hm (prg_1 hg2 hm2 ha na) rfl).run pins s σ H Q I (rg1_read hq)⟩
theorem zpe_rg2 {lst : Bool} {T : Str} (hT : T = (if lst then ("list" : Str) else "tuple")) (hc : X.calm = true) (hg : Gl X T) (hm : X.mg T = none) (hg2 : Gl X "range") (hm2 : X.mg "range" = none) (ha : PE X a (tE X fa)) (hb : PE X b (tE X fb))
    (na : starEach [a, b] X.env = (false, eval a X.env) :: starEach [b] X.env) (nb : starEach [b] X.env = (false, eval b X.env) :: starEach [] X.env) (hp : (backTo pos2 (starEach [b] X.env)).any (·.1) = false) :
    PE X (.Call (.Name T p) [.Call (.Name "range" p2) [a, b] [] pos2] [] pos) (tE X (eRg2 lst fa fb)) := by
  cases lst with
  | true => subst hT; exact ⟨fun pins s σ H Q I hq => (pe_listRg hc hg hm (prg_2 hg2 hm2 ha hb na nb hp) rfl).run pins s σ H Q I (rg2_read hq)⟩
  | false => subst hT; exact ⟨fun pins s σ H Q I hq => (pe_tupRg hc hg hm (prg_2 hg2 hm2 ha hb na nb hp) rfl).run pins s σ H Q I (rg2_read hq)⟩
end

/-! ## calls with keywords -/
def permL {α : Type} (xs : List α) : List Nat → Option (List α)
  | [] => some []
  | i :: is => xs[i]?.bind fun x => (permL xs is).bind fun r => some (x :: r)
def eCallK (F : FnS) (n m : Nat) (pm : List Nat) (fs gs : MOs) : ME := fun ρ => (fs ρ).bind fun r => (tvs r.1).bind fun ds => (gs r.2).bind fun s => (tvs s.1).bind fun es => (permL (ds ++ es) pm).bind fun xs =>
  if F.mask.all (fun b => !b) && decide (xs.length = F.mask.length) && decide (ds.length = n) && decide (es.length = m) then (F.run xs).bind fun w => some (w.1, s.2) else none
theorem arg_plain {K : PySem.W.Frag} {H : Hp} {O : AS} : ∀ {mask : List Bool} {ds : List D} {vs : List V}, (mask.all fun b => !b) = true → ds.length = mask.length → Reps K H O ds vs → ArgRel K H O mask ds vs []
  | [], [], _, _, _, .nil => by unfold ArgRel; exact True.intro
  | false :: ms, d :: ds, _, h, l, .cons r t => ⟨r, arg_plain (by simpa using h) (by simpa using l) t⟩
  | true :: ms, _, _, h, _, _ => by simp at h
  | [], _ :: _, _, _, l, _ => by simp at l
  | _ :: _, [], _, _, l, _ => by simp at l
theorem permL_map {K : PySem.W.Frag} {H : Hp} {O : AS} {ds : List D} {vs : List V} (r : Reps K H O ds vs) : ∀ {pm : List Nat} {xs : List D}, permL ds pm = some xs → ∃ ys, permL vs pm = some ys ∧ Reps K H O xs ys
  | [], xs, h => by cases h; exact ⟨[], rfl, .nil⟩
  | i :: pm, xs, h => by
    obtain ⟨x, e1, h⟩ := bindS h
    obtain ⟨t, e2, h⟩ := bindS h
    cases h
    obtain ⟨y, f1, f2⟩ := r.get e1
    obtain ⟨ys, f3, f4⟩ := permL_map r e2
    exact ⟨y :: ys, by unfold permL; rw [f1, f3]; rfl, .cons f2 f4⟩
theorem permL_rel {vs : List V} {us : List Value} (r : Vals vs us) : ∀ {pm : List Nat}, Vals ((permL vs pm).getD []) ((permL us pm).getD [])
  | [] => .nil
  | i :: pm => by
    have ih := permL_rel r (pm := pm)
    unfold permL
    cases hv : vs[i]? with
    | none =>
      have : us[i]? = none := by
        rw [List.getElem?_eq_none_iff] at hv ⊢
        rw [← r.length]; exact hv
      rw [this]; exact .nil
    | some v =>
      obtain ⟨u, hu, ru⟩ := r.get hv
      rw [hu]
      show Vals (((permL vs pm).bind fun r => some (v :: r)).getD []) (((permL us pm).bind fun r => some (u :: r)).getD [])
      have both : ∀ {α β : Type} {l : List α} {m : List β}, l.length = m.length → ∀ pm : List Nat, (permL l pm).isSome = (permL m pm).isSome := by
        intro α β l m hl pm
        induction pm with
        | nil => rfl
        | cons j pm ih =>
          unfold permL
          by_cases hj : j < l.length
          · rw [List.getElem?_eq_getElem hj, List.getElem?_eq_getElem (by omega)]
            show ((permL l pm).bind _).isSome = ((permL m pm).bind _).isSome
            cases h1 : permL l pm <;> cases h2 : permL m pm <;> rw [h1, h2] at ih <;> first | rfl | cases ih
          · rw [List.getElem?_eq_none (by omega), List.getElem?_eq_none (by omega)]; rfl
      have b := both (r.length) pm
      cases h1 : permL vs pm with
      | none =>
        cases h2 : permL us pm with
        | none => exact .nil
        | some y => rw [h1, h2] at b; cases b
      | some x =>
        cases h2 : permL us pm with
        | none => rw [h1, h2] at b; cases b
        | some y => rw [h1, h2] at ih; exact .cons ru ih
/-- a def's keywords: their places -/
structure KwOk (K : PySem.W.Frag) (fd : FuncData) (ps ks : List Str) (n : Nat) (pm : List Nat) : Prop where
  to : ∀ (s : Shared) (us ws xs : List Value), K.In s.heap → us.length = n → permL (us ++ ws) pm = some xs → xs.length = ps.length → ws.length = ks.length → BindsTo s fd ⟨us, ks.zip ws⟩ (ps.zip xs)
section
variable {X : Cx} {e : Expr} {es : List Expr} {kws : List Keyword} {f : ME} {fs gs : MOs} {pos p kpos : Pos} {nm : Option Str}
theorem zpk_nil : PK X [] (tOps X osNil) := by
  refine ⟨fun pos pins s σ H Q I hq => pk_nil.run pos pins s σ H Q I ?_⟩
  obtain ⟨c, E, ρ, p, ρ', hK, hR, hf, q⟩ := hq
  cases hf
  exact q [] H ⟨Stp.rfl, hR, True.intro⟩
theorem zpk_cons {fa : MO} (ha : PE X e (tOpd X fa)) (hr : PK X kws (tOps X fs)) : PK X (⟨nm, e, kpos⟩ :: kws) (tOps X (osCons fa fs)) := by
  refine ⟨fun pos pins s σ H Q I hq => (pk_cons ha hr).run pos pins s σ H Q I ?_⟩
  obtain ⟨c, E, ρ, p, ρ', hK, hR, hf, q⟩ := hq
  obtain ⟨⟨p1, ρ1⟩, h1, hf⟩ := bindS hf
  obtain ⟨⟨p2, ρ2⟩, h2, hf⟩ := bindS hf
  cases hf
  refine ⟨c, E, ρ, p1, ρ1, hK, hR, h1, fun x H1 P1 => ⟨c, E, ρ1, p2, ρ2, hK, P1.2.1, h2, fun xs H2 P2 => q _ H2 ⟨P1.1.trans P2.1, P2.2.1, ?_, P2.2.2⟩⟩⟩
  obtain ⟨_, _, P3⟩ := P1
  cases p1 with
  | tv d => exact Rep.mono P2.1.keeps P3
  | sl i => exact P3

theorem callK_read {F : FnS} {n m : Nat} {pm : List Nat} {σ : L2.St} {H : Hp} {Q : VK} (hq : tE X (eCallK F n m pm fs gs) σ H Q) :
    tOps X fs σ H fun vs H1 => tOps X gs σ H1 fun zs H2 => vs.length = n ∧ zs.length = m ∧ ∃ ys, permL (vs ++ zs) pm = some ys ∧ spF X.K F ys H2 Q E0 := by
  obtain ⟨c, E, ρ, rv, ρ', hK, hR, hf, q⟩ := hq
  obtain ⟨⟨ps, ρ1⟩, h1, hf⟩ := bindS hf
  obtain ⟨ds, h2, hf⟩ := bindS hf
  obtain ⟨⟨ps2, ρ2⟩, h3, hf⟩ := bindS hf
  obtain ⟨es2, h4, hf⟩ := bindS hf
  obtain ⟨xs, h5, hf⟩ := bindS hf
  split at hf
  · rename_i hc
    simp only [Bool.and_eq_true, decide_eq_true_eq] at hc
    obtain ⟨⟨⟨c1, c2⟩, c3⟩, c4⟩ := hc
    obtain ⟨⟨rw', outs⟩, h6, hf⟩ := bindS hf
    cases hf
    refine ⟨c, E, ρ, ps, ρ1, hK, hR, h1, fun vs H1 P1 => ⟨c, E, ρ1, ps2, ρ2, hK, P1.2.1, h3, fun zs H2 P2 => ?_⟩⟩
    have r1 := (tvs_ok P1.2.1 h2 P1.2.2).mono P2.1.keeps
    have r2 := tvs_ok P2.2.1 h4 P2.2.2
    obtain ⟨ys, e1, e2⟩ := permL_map (r1.append r2) h5
    refine ⟨by rw [← r1.length]; exact c3, by rw [← r2.length]; exact c4, ys, e1, ?_⟩
    refine ⟨OE ρ2 σ E, xs, [], _, outs, by rw [← e2.length]; exact c2, h6, oe_there P2.2.1, by rw [← hK]; exact arg_plain c1 c2 e2, List.nodup_nil, (fun a h => by cases h), fun z H' ⟨p1, p2, p3⟩ => q z H' ?_⟩
    have g : Grow H2 H' := fun b o hb => p1 b o hb (fun h => by cases h)
    have rb : ResB c.K H2 (OE ρ2 σ E) rw' H' z := by
      rw [hK]
      refine ⟨g, ?_⟩
      cases rw' with
      | v d => exact p3.1
      | o d => obtain ⟨a, e, n, o, _⟩ := p3; exact ⟨a, e, n, o⟩
    exact ResB.post (P1.1.trans P2.1) P2.2.1 rb
  · cases hf
theorem fnk_run {F : FnS} {k n : Nat} {f0 : Addr} {fd : FuncData} {ps ks : List Str} {pm : List Nat} {pins : List (Addr × Obj)} {s : Shared} {σ : L2.St} {H : Hp} {Q : VK} {us ws : List Value} {vs zs ys : List V} (Fo : FnOk X.prog X.w X.K X.mg X.base CX0 k f0 fd ps (spF X.K F)) (hr : Room k X.A) (hb : KwOk X.K fd ps ks n pm)
    (I : Inv X pins σ H s) (r : Vals vs us) (rz : Vals zs ws) (l1 : vs.length = n) (l2 : zs.length = ks.length) (e : permL (vs ++ zs) pm = some ys) (h : spF X.K F ys H Q E0) : wpAny (model X.prog X.w) X.A (call (.ref f0) us (ks.zip ws)) (EP X pins σ Q) X.xe s := by
  have rr : Vals (vs ++ zs) (us ++ ws) := r.append rz
  have r2 := permL_rel rr (pm := pm)
  rw [e] at r2
  have r2 : Vals ys ((permL (us ++ ws) pm).getD []) := r2
  have hl : ys.length = ps.length := Fo.len _ _ _ _ h
  have e2 : permL (us ++ ws) pm = some ((permL (us ++ ws) pm).getD []) := by
    cases q : permL (us ++ ws) pm with
    | some x => rfl
    | none =>
      rw [q] at r2
      cases r2
      cases pm with
      | nil => cases q
      | cons i pm => 
        unfold permL at e
        obtain ⟨x, _, e⟩ := bindS e
        obtain ⟨t, _, e⟩ := bindS e
        cases e
  refine wpAny_call (codeAny_mono (Fo.run X.A X.stack s H ⟨us, ks.zip ws⟩ _ ys Q E0 hr I.env0 (hb.to s us ws _ I.kIn (by rw [← r.length]; exact l1) e2 (by rw [← r2.length]; exact hl) (by rw [← rz.length]; exact l2)) r2 h) fun r s' hq => ?_)
  cases r with
  | error e => exact pass0 pins σ H s e s' I hq
  | ok fl =>
    cases fl with
    | ret u => exact I.after hq
    | next => exact False.elim hq
    | brk => exact False.elim hq
    | cont => exact False.elim hq
theorem zpe_callK0 {F : FnS} {k : Nat} {x : Str} {f0 : Addr} {fd : FuncData} {ps ks : List Str} {pm : List Nat} (Fo : FnOk X.prog X.w X.K X.mg X.base CX0 k f0 fd ps (spF X.K F)) (hr : Room k X.A) (hg : Gl X x) (hm : X.mg x = some (.ref f0)) (hk : PySem.W.keepIn X.K (.ref f0) = true) (hb : KwOk X.K fd ps ks 0 pm)
    (hkw : PK X kws (tOps X gs)) (hall : (backToKw pos (keywordEach kws X.env)).all (·.1.isSome) = true) (hks : (backToKw pos (keywordEach kws X.env)).filterMap (·.1) = ks) (hdb : (x == ("__debug__" : Str)) = false)
    (hpl : (backToKw pos (keywordEach kws X.env)).any (·.1.isNone) = false) : PE X (.Call (.Name x p) [] kws pos) (tE X (eCallK F 0 ks.length pm osNil gs)) := by
  refine ⟨fun pins s σ H Q I hq => ?_⟩
  obtain ⟨c, E, ρ, ps1, ρ1, hK, hR, h1, h2⟩ := callK_read hq
  cases h1
  refine wpAny_Call_Name_kw (ld_glob I hg hm ?_ hdb)
  refine PySem.W.callWith_KW0 (h₀ := X.base) I.ok.mod.kin hk hall (thn (hkw.run pos pins s σ H _ I (h2 [] H ⟨Stp.rfl, hR, True.intro⟩)) fun ws s2 ⟨zs, H2, I2, rz, q2⟩ => ⟨I2.kIn, ?_⟩) (by rw [hpl]; rfl)
  rw [hks]
  obtain ⟨l1, l2, ys, e, h⟩ := q2
  exact fnk_run (us := []) Fo hr hb I2 .nil rz l1 l2 e h
theorem zpe_callK {F : FnS} {k n : Nat} {x : Str} {f0 : Addr} {fd : FuncData} {ps ks : List Str} {pm : List Nat} (Fo : FnOk X.prog X.w X.K X.mg X.base CX0 k f0 fd ps (spF X.K F)) (hr : Room k X.A) (hg : Gl X x) (hm : X.mg x = some (.ref f0)) (hk : PySem.W.keepIn X.K (.ref f0) = true) (hb : KwOk X.K fd ps ks n pm)
    (ha : PA X (e :: es) (tOps X fs)) (hkw : PK X kws (tOps X gs)) (hall : (backToKw pos (keywordEach kws X.env)).all (·.1.isSome) = true) (hks : (backToKw pos (keywordEach kws X.env)).filterMap (·.1) = ks) (hdb : (x == ("__debug__" : Str)) = false)
    (he : starEach (e :: es) X.env = (false, eval e X.env) :: starEach es X.env) (hp : (backTo pos (starEach (e :: es) X.env)).any (·.1) = false)
    (hpl : (backToKw pos (keywordEach kws X.env)).any (·.1.isNone) = false) : PE X (.Call (.Name x p) (e :: es) kws pos) (tE X (eCallK F n ks.length pm fs gs)) := by
  refine ⟨fun pins s σ H Q I hq => ?_⟩
  have hq := callK_read hq
  refine wpAny_Call_Name_kw (ld_glob I hg hm ?_ hdb)
  refine PySem.W.callWith_KW (h₀ := X.base) I.ok.mod.kin hk hall (thn (ha.run pos pins s σ H _ I hq) fun us s1 ⟨vs, H1, I1, r, q⟩ => ?_) (by rw [hpl, hp]; rfl) he
  refine thn (hkw.run pos pins s1 σ H1 _ I1 q) fun ws s2 ⟨zs, H2, I2, rz, q2⟩ => ⟨I2.kIn, ?_⟩
  rw [hks]
  obtain ⟨l1, l2, ys, e, h⟩ := q2
  exact fnk_run Fo hr hb I2 r rz l1 l2 e h
end

/-! ## a call of a local name that holds a def of the module -/
def eCallV (tb : Str → Option FnS) (i : Nat) (fs : MOs) : ME := fun ρ => match slot ρ i with
  | some (.dict [(.none, .str nm)]) => (tb nm).bind fun F => (fs ρ).bind fun r => (tvs r.1).bind fun ds => if F.mask.all (fun b => !b) && decide (ds.length = F.mask.length) then (F.run ds).bind fun w => some (w.1, r.2) else none
  | _ => none
theorem fn_top {K : PySem.W.Frag} {H : Hp} {O : AS} {nm : Str} {z : V} (t : Top K H O (.dict [(.none, .str nm)]) z) : ∃ a, z = .ref a ∧ PySem.W.nsIn K mainGlobals nm = some (some (.ref a)) := by
  rcases t with t | ⟨a, rfl, vs, e, r⟩
  · cases t with
    | dic _ _ r => cases r.noFn
    | fnc e => exact ⟨_, rfl, e⟩
  · cases r.noFn
theorem zpe_callV {X : Cx} {x : Str} {i k : Nat} {e : Expr} {es : List Expr} {fs : MOs} {p pos : Pos} {tb : Str → Option FnS} (hn : PE X (.Name x p) (tVar i))
    (ht : ∀ nm F a, tb nm = some F → PySem.W.nsIn X.K mainGlobals nm = some (some (.ref a)) → ∃ fd ps, FnOk X.prog X.w X.K X.mg X.base CX0 k a fd ps (spF X.K F) ∧ PySem.W.keepIn X.K (.ref a) = true ∧ Binds X.K fd ps []) (hr : Room k X.A)
    (ha : PA X (e :: es) (tOps X fs)) (he : starEach (e :: es) X.env = (false, eval e X.env) :: starEach es X.env) (hpl : (backTo pos (starEach es X.env)).any (·.1) = false) :
    PE X (.Call (.Name x p) (e :: es) [] pos) (tE X (eCallV tb i fs)) := by
  refine ⟨fun pins s σ H Q I hq => ?_⟩
  obtain ⟨c, E, ρ, rv, ρ', hK, hR, hf, q⟩ := hq
  unfold eCallV at hf
  split at hf
  · rename_i nm h0
    obtain ⟨z, hz⟩ := hR.slot_some h0
    obtain ⟨a, rfl, hns⟩ := fn_top (hR.top h0 hz)
    obtain ⟨F, hF, hf⟩ := bindS hf
    rw [hK] at hns
    obtain ⟨fd, ps, Fo, hk, hb⟩ := ht nm F a hF hns
    obtain ⟨⟨ps1, ρ1⟩, h1, hf⟩ := bindS hf
    obtain ⟨ds, h2, hf⟩ := bindS hf
    split at hf
    · rename_i hc
      simp only [Bool.and_eq_true, decide_eq_true_eq] at hc
      obtain ⟨c1, c2⟩ := hc
      obtain ⟨⟨rw', outs⟩, h6, hf⟩ := bindS hf
      cases hf
      have rd : tOps X fs σ H fun vs H1 => spF X.K F (vs ++ []) H1 Q E0 := by
        refine ⟨c, E, ρ, ps1, ρ1, hK, hR, h1, fun vs H1 P1 => ?_⟩
        have r1 := tvs_ok P1.2.1 h2 P1.2.2
        show spF X.K F (vs ++ []) H1 Q E0
        rw [List.append_nil]
        refine ⟨OE ρ1 σ E, ds, [], _, outs, by rw [← r1.length]; exact c2, h6, oe_there P1.2.1, by rw [← hK]; exact arg_plain c1 c2 r1, List.nodup_nil, (fun a h => by cases h), fun z H' ⟨p1, p2, p3⟩ => q z H' ?_⟩
        have g : Grow H1 H' := fun b o hb => p1 b o hb (fun h => by cases h)
        have rb : ResB c.K H1 (OE ρ1 σ E) rw' H' z := by
          rw [hK]
          refine ⟨g, ?_⟩
          cases rw' with
          | v d => exact p3.1
          | o d => obtain ⟨a, e, n, o, _⟩ := p3; exact ⟨a, e, n, o⟩
        exact ResB.post P1.1 P1.2.1 rb
      refine wpAny_Call_Name_kw (thn (hn.run pins s σ H (fun v H1 => v = .ref a ∧ H1 = H) I ⟨.ref a, hz, rfl, rfl⟩) fun u s1 ⟨v, H1, I1, r1, q1⟩ => ?_)
      obtain ⟨e1, e2⟩ := q1
      subst e1; subst e2
      cases r1
      refine PySem.W.callWith_K (h₀ := X.base) I1.ok.mod.kin hk (thn (ha.run pos pins s1 σ _ _ I1 rd) fun us s2 ⟨vs, H2, I2, r, q⟩ => ⟨I2.kIn, ?_⟩) he hpl
      exact run_fn Fo hr hb .nil pass0 I2 r q
    · cases hf
  · cases hf
/-! ## a test that chooses between two -/
def bIf (t f g : MB) : MB := fun ρ => (t ρ).bind fun r => if r.1 then f r.2 else g r.2
theorem zpt_if {X : Cx} {t a b : Expr} {pos : Pos} {bt bf bg : MB} (ht : PT X t (tT X bt)) (ha : PT X a (tT X bf)) (hb : PT X b (tT X bg)) : PT X (.IfExp t a b pos) (tT X (bIf bt bf bg)) := by
  refine ⟨fun pins s σ H Q I hq => ?_⟩
  obtain ⟨c, E, ρ, k, ρ', hK, hR, hf, q⟩ := hq
  obtain ⟨⟨k1, ρ1⟩, h1, hf⟩ := bindS hf
  have go : tT X bt σ H (fun k2 H1 => if k2 = true then tT X bf σ H1 Q else tT X bg σ H1 Q) := by
    refine ⟨c, E, ρ, k1, ρ1, hK, hR, h1, fun H1 P1 => ?_⟩
    cases k1 with
    | true => exact iteT ⟨c, E, ρ1, k, ρ', hK, P1.2, hf, fun H2 P2 => q H2 ⟨P1.1.trans P2.1, P2.2⟩⟩
    | false => exact iteF ⟨c, E, ρ1, k, ρ', hK, P1.2, hf, fun H2 P2 => q H2 ⟨P1.1.trans P2.1, P2.2⟩⟩
  refine isTrue_IfExp (thn (ht.run pins s σ H _ I go) fun k2 s1 e => ?_)
  obtain ⟨H1, I1, q1⟩ := e
  cases k2 with
  | true => exact ha.run pins s1 σ H1 Q I1 (by simpa using q1)
  | false => exact hb.run pins s1 σ H1 Q I1 (by simpa using q1)
/-! ## d.get(k), d.get(k, x) -/
def getOr (ds : List (D × D)) (k x : D) : D := match getK ds k with
  | some d => d
  | none => x
def eGet2 (i : Nat) (fk fx : ME) : ME := fun ρ => match slot ρ i with
  | some (.dict d0) => (fk ρ).bind fun r => (asV r.1).bind fun k => (fx r.2).bind fun s => match slot s.2 i with
    | some (.dict ds) => if isKD k && (!isFn d0 && !isFn ds) then some (.v (getOr ds k s.1.d), s.2) else none
    | _ => none
  | _ => none
def eGet1 (i : Nat) (fk : ME) : ME := fun ρ => match slot ρ i with
  | some (.dict d0) => (fk ρ).bind fun r => (asV r.1).bind fun k => match slot r.2 i with
    | some (.dict ds) => if isKD k && (!isFn d0 && !isFn ds) then some (.v (getOr ds k .none), r.2) else none
    | _ => none
  | _ => none
section
variable {X : Cx} {o e x : Expr} {apos cpos : Pos} {fk fx : ME} {i : Nat}
theorem isD_top {K : PySem.W.Frag} {H : Hp} {O : AS} {ds : List (D × D)} {z : V} (t : Top K H O (.dict ds) z) (hf : isFn ds = false) : ∃ a, z = .ref a ∧ IsD H a := by
  obtain ⟨a, kvs, rfl, e, _⟩ := t.dict hf
  exact ⟨a, rfl, .inl ⟨kvs, .inl e⟩⟩
theorem key_of_rep {K : PySem.W.Frag} {H : Hp} {O : AS} {k : L2.Key} {z : V} (r : Rep K H O (kD k) z) : z = kV k := by
  cases k with
  | inl i => cases r; rfl
  | inr i => cases r; rfl
theorem get_or {K : PySem.W.Frag} {H : Hp} {O : AS} {ds : List (D × D)} {k : L2.Key} {x : D} {a : Addr} {z : V} (t : Top K H O (.dict ds) (.ref a)) (hf : isFn ds = false) (rx : Rep K H O x z) : ∃ ov, DGet H a (kV k) ov ∧ Rep K H O (getOr ds (kD k) x) (ov.getD z) := by
  obtain ⟨b, kvs, eb, e, r⟩ := t.dict hf
  cases eb
  refine ⟨_, DGet.k e, ?_⟩
  unfold getOr
  rcases getK_ok (k := k) r with ⟨g1, g2⟩ | ⟨d, v, g1, g2, g3⟩
  · rw [g1, g2]; exact rx
  · rw [g1, g2]; exact g3
theorem zpe_get1 (hu : X.A.units + 66 < cLine) (ho : PE X o (tVar i)) (he : PE X e (tE X fk)) (m : M1 X o "get" apos e cpos) : PE X (.Call (.Attribute o "get" apos) [e] [] cpos) (tE X (eGet1 i fk)) := by
  refine ⟨fun pins s σ H Q I hq => (pe_dget1 (by omega) ho he m).run pins s σ H Q I ?_⟩
  obtain ⟨c, E, ρ, rv, ρ', hK, hR, hf, q⟩ := hq
  unfold eGet1 at hf
  split at hf
  · rename_i ds0 h0
    obtain ⟨z, hz⟩ := hR.slot_some h0
    obtain ⟨⟨r1, ρ1⟩, h1, hf⟩ := bindS hf
    obtain ⟨k, h2, hf⟩ := bindS hf
    split at hf
    · rename_i ds h3
      split at hf
      · rename_i hk
        cases hf
        simp only [Bool.and_eq_true, Bool.not_eq_true'] at hk
        obtain ⟨hk, hn0, hn⟩ := hk
        obtain ⟨k, rfl⟩ := isKD_ok hk
        have e2 := asV_ok h2
        dsimp only at e2 h3
        subst e2
        obtain ⟨a, rfl, ia⟩ := isD_top (hR.top h0 hz) hn0
        refine ⟨_, hz, a, rfl, ia, c, E, ρ, _, ρ1, hK, hR, h1, fun y H1 P1 => ?_⟩
        obtain ⟨s1, R1, v1⟩ := P1.v
        have ey := key_of_rep v1
        subst ey
        obtain ⟨ov, g1, g2⟩ := get_or (k := k) (R1.top h3 hz) hn (Rep.non)
        exact ⟨ov, g1, q _ _ ⟨s1, R1, g2⟩⟩
      · cases hf
    · cases hf
  · cases hf
theorem zpe_get2 (hu : X.A.units + 66 < cLine) (ho : PE X o (tVar i)) (he : PE X e (tE X fk)) (hx : PE X x (tE X fx)) (m : M2 X o "get" apos e x cpos) : PE X (.Call (.Attribute o "get" apos) [e, x] [] cpos) (tE X (eGet2 i fk fx)) := by
  refine ⟨fun pins s σ H Q I hq => (pe_dget2 (by omega) ho he hx m).run pins s σ H Q I ?_⟩
  obtain ⟨c, E, ρ, rv, ρ', hK, hR, hf, q⟩ := hq
  unfold eGet2 at hf
  split at hf
  · rename_i ds0 h0
    obtain ⟨z, hz⟩ := hR.slot_some h0
    obtain ⟨⟨r1, ρ1⟩, h1, hf⟩ := bindS hf
    obtain ⟨k, h2, hf⟩ := bindS hf
    obtain ⟨⟨r2, ρ2⟩, h3, hf⟩ := bindS hf
    split at hf
    · rename_i ds h4
      split at hf
      · rename_i hk
        cases hf
        simp only [Bool.and_eq_true, Bool.not_eq_true'] at hk
        obtain ⟨hk, hn0, hn⟩ := hk
        obtain ⟨k, rfl⟩ := isKD_ok hk
        have e2 := asV_ok h2
        dsimp only at e2 h3 h4
        subst e2
        obtain ⟨a, rfl, ia⟩ := isD_top (hR.top h0 hz) hn0
        refine ⟨_, hz, a, rfl, ia, c, E, ρ, _, ρ1, hK, hR, h1, fun y H1 P1 => ?_⟩
        obtain ⟨s1, R1, v1⟩ := P1.v
        have ey := key_of_rep v1
        subst ey
        refine ⟨c, E, ρ1, _, ρ2, hK, R1, h3, fun w H2 P2 => ?_⟩
        obtain ⟨s2, R2, v2⟩ := P2.pv R1
        obtain ⟨ov, g1, g2⟩ := get_or (k := k) (R2.top h4 hz) hn v2
        exact ⟨ov, g1, q _ _ ⟨s1.trans s2, R2, g2⟩⟩
      · cases hf
    · cases hf
  · cases hf
end
end Z
namespace Z
open PySem PySem.Spec L2
open PyProof.Rows hiding St

/-! ## x[::-1] -/
def revS (s : Str) : Str := ⟨((Builtin.Str.strSliceIndices none none (-1) s.length).filterMap (s.cps[·]?)).toArray⟩
theorem strOk_rev {s : Str} (h : PyData.strOk s = true) : PyData.strOk (revS s) = true := by
  rw [strOk_iff] at *
  intro c hc
  have e : (revS s).cps.toList = (Builtin.Str.strSliceIndices none none (-1) s.length).filterMap (s.cps[·]?) := by unfold revS; rw [List.toList_toArray]
  rw [e] at hc
  obtain ⟨i, _, hi⟩ := List.mem_filterMap.mp hc
  exact h c (Array.mem_toList_iff.mpr (Array.mem_of_getElem? hi))
def revD : D → Option RV
  | .list ds => some (.o (.list ds.reverse))
  | .tuple ds => some (.v (.tuple ds.reverse))
  | .str s => if szb (revS s).length then some (.v (.str (revS s))) else none
  | _ => none
theorem Reps.reverse {K : PySem.W.Frag} {H : Hp} {O : AS} {ds : List D} {vs : List V} (r : Reps K H O ds vs) : Reps K H O ds.reverse vs.reverse := by
  have go : ∀ (ds : List D) (vs : List V), Reps K H O ds vs → Reps K H O ds.reverse vs.reverse := by
    intro ds
    induction ds with
    | nil => intro vs r; cases r; exact .nil
    | cons d ds ih =>
      intro vs r
      cases r with
      | cons a t =>
        rw [List.reverse_cons, List.reverse_cons]
        exact (ih _ t).append (.cons a .nil)
  exact go ds vs r
theorem adjust_rev (n : Nat) : Builtin.Slice.sliceAdjust none none (-1) (n : Int) = ((n : Int) - 1, -1) := by
  unfold Builtin.Slice.sliceAdjust
  simp
theorem places_rev (n : Nat) : Builtin.Slice.slicePlaces ((n : Int) - 1) (-1) (-1) = n := by
  unfold Builtin.Slice.slicePlaces
  have h1 : ¬ ((-1 : Int) > 0) := by omega
  simp only [h1, if_false]
  rw [show (- -1 : Int) = 1 by decide, Int.ediv_one]
  split <;> omega
section
variable {prog : Program} {w : World} {A : Around} {E : Value → Shared → Prop} {s : Shared}
theorem sliceApplied_rev {sl : Addr} {vl vu vk : Value} {n : Nat} {Q : Int × Int × Nat → Shared → Prop} (hs : s.heap.IsSliceOf sl vl vu vk) (pl : IsPart vl none) (pu : IsPart vu none) (pk : IsPart vk (some (-1)))
    (h : Q ((n : Int) - 1, -1, n) s) : wpAny (model prog w) A (Builtin.Slice.sliceApplied (.ref sl) (pure (n : Int))) Q E s := by
  obtain ⟨os, hos, hcs, hds⟩ := id hs
  unfold Builtin.Slice.sliceApplied Builtin.Slice.sliceFields
  refine wpAny_bind (wpAny_bind (wpAny_field hos hds (x := vl) rfl (wpAny_bind (wpAny_field hos hds (x := vu) rfl (wpAny_bind (wpAny_field hos hds (x := vk) rfl (wpAny_pure ?_)))))))
  refine wpAny_bind (HT.slicePart_ pk ?_)
  show wpAny _ _ (if ((-1 : Int) == 0) = true then _ else _) _ _ s
  rw [if_neg (by decide)]
  refine wpAny_bind (HT.slicePart_ pl (wpAny_bind (HT.slicePart_ pu (wpAny_bind (wpAny_pure ?_)))))
  show wpAny _ _ (match Builtin.Slice.sliceAdjust none none (-1) (n : Int) with | (lo, hi) => pure (lo, (-1 : Int), Builtin.Slice.slicePlaces lo hi (-1))) _ _ s
  rw [adjust_rev n]
  show wpAny _ _ (pure ((n : Int) - 1, (-1 : Int), Builtin.Slice.slicePlaces ((n : Int) - 1) (-1) (-1))) _ _ s
  rw [places_rev]
  exact wpAny_pure h
theorem pick_rev (xs : Array Value) : ((List.range xs.size).filterMap fun (m : Nat) => xs[((xs.size : Int) - 1 + (m : Int) * (-1)).toNat]?).toArray = xs.toList.reverse.toArray := by
  have e : (fun (m : Nat) => xs[((xs.size : Int) - 1 + (m : Int) * (-1)).toNat]?) = (fun k => xs[k]?) ∘ fun m => xs.size - 1 - m := by
    funext m
    have : ((xs.size : Int) - 1 + (m : Int) * (-1)).toNat = xs.size - 1 - m := by omega
    rw [this]; rfl
  rw [e, ← List.filterMap_map, PySem.W.krv_range, List.filterMap_reverse, PySem.W.krv_all]
theorem getItem_tuple_rev {t sl : Addr} {items : Array Value} {vl vu vk : Value} {Q : Value → Shared → Prop} (ht : IsTup s.heap t items) (hs : s.heap.IsSliceOf sl vl vu vk) (pl : IsPart vl none) (pu : IsPart vu none) (pk : IsPart vk (some (-1)))
    (h : Q (.ref s.heap.objs.size) { s with heap := s.heap.push { cls := .type "tuple", data := .seq items.toList.reverse.toArray } })
    (hsz : items.size ≤ sizeLine) : wpAny (model prog w) A (getItem (.ref t) (.ref sl)) Q E s := by
  have htake : sizeOk (.seq items.toList.reverse.toArray) := by
    show items.toList.reverse.toArray.size ≤ sizeLine
    rw [List.size_toArray, List.length_reverse, Array.length_toList]
    omega
  obtain ⟨os, hos, hcs, hds⟩ := id hs
  have hTs : s.TypeIs (.ref sl) "slice" := ⟨os, hos, hcs⟩
  unfold getItem
  try with_reducible refine wpAny_holding ?_
  first | refine wpAny_bind (wpAny_pure ?_) | skip
  refine wpAny_bind (wpAny_sequenceKey ht.typeIs (by decide) ?_)
  refine wpAny_bind (wpAny_callSpecial?_slot (name := Str.ofString "__getitem__") ht.typeIs PyProof.Rows.slot_tuple_getitem
    (wpAny_call_entry PyProof.Rows.slot_tuple_getitem ht.typeIs entry_tuple_getitem ?_ (args_tuple_getitem _ _)))
  show wpAny _ _ (Builtin.Tuple.tupleItemsOf (.ref t) >>= _) _ _ s
  refine wpAny_bind (tupleItemsOf_ ht ?_)
  refine wpAny_bind (wpAny_typeOf hTs ?_)
  rw [if_pos (by decide)]
  refine wpAny_bind (sliceApplied_rev hs pl pu pk ?_)
  have hno : ¬ ((((items.size : Int) - 1) == 0 && (-1 : Int) == 1 && items.size == items.size) = true) := by
    intro q
    rw [Bool.and_eq_true, Bool.and_eq_true] at q
    have q1 : (-1 : Int) = 1 := eq_of_beq q.1.2
    omega
  show wpAny _ _ (if (((items.size : Int) - 1) == 0 && (-1 : Int) == 1 && items.size == items.size) = true then _ else _) _ _ s
  rw [if_neg hno, pick_rev]
  first
    | exact wpAny_bind (m := Builtin.Tuple.tupleExact _) (wpAny_newObj_type (wpAny_pure ⟨_, rfl, wpAny_pure h⟩) htake)
    | exact wpAny_bind (m := Builtin.Tuple.tupleExact _) (wpAny_newObj_type (wpAny_bind (wpAny_pure (wpAny_pure ⟨_, rfl, wpAny_pure h⟩))) htake)
    | exact wpAny_bind (wpAny_bind (m := Builtin.Tuple.tupleExact _) (wpAny_newObj_type (wpAny_pure (wpAny_pure ⟨_, rfl, wpAny_pure h⟩)) htake))
    | exact wpAny_bind (wpAny_bind (m := Builtin.Tuple.tupleExact _) (wpAny_newObj_type (wpAny_pure ⟨_, rfl, wpAny_pure h⟩) htake))
end
section
variable {X : Cx} {a : Expr} {fa : MO}
theorem zpe_rev {k : Nat} {p1 p2 p3 pos : Pos} (he : PE X a (tOpd X fa)) : PE X (.Subscript a (.Slice none none (some (.UnaryOp .USub (.Constant (.int 1) k p1) p2)) p3) pos) (tE X (eOp1 revD fa)) := by
  refine ⟨fun pins s σ H Q I h => ?_⟩
  refine Subscript_ (thn (he.run pins s σ H _ I (op1_read h)) fun v s1 ⟨x, H1, I1, r1, q1⟩ => ?_)
  obtain ⟨O, d, rv, hO, td, hf, q⟩ := q1
  have hst : PO X (some (.UnaryOp .USub (.Constant (.int 1) k p1) p2)) (tPart (tUn (rU fun i => .int (-i)) (tC (.int 1)))) := po_some (pe_un un_neg pe_int)
  refine wpAny_Slice (thn (po_none.run pins s1 σ H1 (fun o H2 => o = none ∧ H2 = H1) I1 ⟨rfl, rfl⟩) fun vl s2 ⟨l, H2, I2, pl, el, e2⟩ => ?_)
  subst el e2
  refine thn (po_none.run pins s2 σ H2 (fun o H3 => o = none ∧ H3 = H2) I2 ⟨rfl, rfl⟩) fun vu s3 ⟨u, H3, I3, pu, eu, e3⟩ => ?_
  subst eu e3
  refine thn (hst.run pins s3 σ H3 (fun o H4 => o = some (-1) ∧ H4 = H3) I3 ⟨1, rfl, -1, rfl, rfl, rfl⟩) fun vs s4 ⟨o, H4, I4, ps, eo, e4⟩ => ?_
  subst eo e4
  have I5 : Inv X pins σ H4 { s4 with heap := s4.heap.push { cls := .type "slice", data := .fields #[vl, vu, vs] } } := I4.kept (t' := s4.toks) fun b ob q => Heap.get?_push_of_some _ q
  unfold revD at hf
  split at hf
  · rename_i ds
    cases hf
    obtain ⟨b, xs, rfl, hx, rx⟩ := td.list
    cases r1
    obtain ⟨its, r, ht, hz⟩ := I5.list hx
    have hlen := r.length
    show wpAny (model X.prog X.w) X.A (subscriptTail a (.Slice none none (some (.UnaryOp .USub (.Constant (.int 1) k p1) p2)) p3) (.ref b) (.ref s4.heap.objs.size)) (EP X pins σ Q) X.xe { s4 with heap := s4.heap.push { cls := .type "slice", data := .fields #[vl, vu, vs] } }
    refine tail_any (ops := [.ref b, .ref s4.heap.objs.size]) ht.isList.typeIs (PySem.slot_list_getitem.lookup) ?_ (by with_unfolding_all rfl)
    refine wpAny_getItem_list_slice ht.isList (Heap.IsSliceOf.new _ vl vu vs) pl pu ps (by decide) ?_ (by rw [List.size_toArray]; omega)
    rw [PySem.W.krv_pick]
    have fr := I5.hok.fresh (Nat.le_refl _)
    refine ⟨.ref _, _, I5.laid (t' := s4.toks) (o := .lst xs.reverse) (fun b ob q => Heap.get?_push_of_some _ q) (Nat.le_refl _) ?_, rfl, q _ _ (resLst rx.reverse fr)⟩
    exact ⟨by rw [List.length_reverse]; exact hz, _, 0, r.reverse, Heap.get?_push_size _ rfl⟩
  · rename_i ds
    cases hf
    obtain ⟨b, xs, rfl, hx, rx⟩ := td.tuple
    cases r1
    obtain ⟨its, r, ht, hz⟩ := I5.tuple hx
    have hlen := r.length
    show wpAny (model X.prog X.w) X.A (subscriptTail a (.Slice none none (some (.UnaryOp .USub (.Constant (.int 1) k p1) p2)) p3) (.ref b) (.ref s4.heap.objs.size)) (EP X pins σ Q) X.xe { s4 with heap := s4.heap.push { cls := .type "slice", data := .fields #[vl, vu, vs] } }
    refine tail_any (ops := [.ref b, .ref s4.heap.objs.size]) ht.typeIs PyProof.Rows.slot_tuple_getitem.lookup ?_ (by with_unfolding_all rfl)
    refine getItem_tuple_rev ht (Heap.IsSliceOf.new _ vl vu vs) pl pu ps ?_ (by rw [List.size_toArray]; omega)
    have fr := I5.hok.fresh (Nat.le_refl _)
    refine ⟨.ref _, _, I5.laid (t' := s4.toks) (o := .tup xs.reverse) (fun b ob q => Heap.get?_push_of_some _ q) (Nat.le_refl _) ?_, rfl, q _ _ (resTup hO rx.reverse fr)⟩
    exact ⟨by rw [List.length_reverse]; exact hz, _, r.reverse, IsTup.new _ _⟩
  · rename_i z
    split at hf
    · rename_i hz
      have sk := td.strOk
      cases td.str
      cases hf
      obtain ⟨t, rfl⟩ := r1
      obtain ⟨l, rfl, el⟩ := IsPart.raw pl
      obtain ⟨u, rfl, eu⟩ := IsPart.raw pu
      obtain ⟨o, rfl, eo⟩ := IsPart.raw ps
      show wpAny (model X.prog X.w) X.A (subscriptTail a (.Slice none none (some (.UnaryOp .USub (.Constant (.int 1) k p1) p2)) p3) (.str z t) (.ref s4.heap.objs.size)) (EP X pins σ Q) X.xe { s4 with heap := s4.heap.push { cls := .type "slice", data := .fields #[partValue l, partValue u, partValue o] } }
      refine tail_any (ops := [.str z t, .ref s4.heap.objs.size]) (typeIs_str _ _ _) F.slot_str_getitem.lookup ?_ (by with_unfolding_all rfl)
      refine wpAny_getItem_str_slice (l := l) (u := u) (st := o) ⟨_, Heap.get?_push_size _ rfl, rfl, rfl⟩ (by rw [eo]; rfl) ?_
      unfold sliceMade slicePicked
      rw [el, eu, eo]
      show Made.post (if ((-1 : Int) == 1 && _) = true then _ else _) _ _
      rw [show ((-1 : Int) == 1) = false from rfl, Bool.false_and, if_neg Bool.false_ne_true]
      exact ⟨szb_ok hz, .str (revS z), H4, I5.tok _, ⟨_, rfl⟩, q _ _ (resV (.str _ (strOk_rev sk)))⟩
    · cases hf
  · cases hf
end
/-! ## displays of dicts, of constants -/
def dcD (kvs : List (L2.Key × D)) : List (D × D) := kvs.map fun p => (kD p.1, p.2)
def eDic (kvs : List (L2.Key × D)) : ME := fun ρ => some (.o (.dict (dcD kvs)), ρ)
def vOf : D → V
  | .none => .non
  | .bool b => .bl b
  | .int i => .int i
  | .str s => .str s
  | _ => .non
def cCst : Const → Option D
  | .none => some .none
  | .bool b => some (.bool b)
  | .int i => some (.int i)
  | .str s => if PyData.strOk s then some (.str s) else none
  | _ => none
def kOf : Expr → Option L2.Key
  | .Constant (.str s) _ _ => if PyData.strOk s then some (.inr s) else none
  | .Constant (.int i) _ _ => some (.inl i)
  | _ => none
def dOf : Expr → Option D
  | .Constant k _ _ => cCst k
  | _ => none
def cDic : List (Option Expr) → List Expr → Option (List (L2.Key × D))
  | [], [] => some []
  | some k :: ks, v :: vs => (kOf k).bind fun k => (dOf v).bind fun d => (cDic ks vs).bind fun r => if r.all fun p => !decide (p.1 = k) then some ((k, d) :: r) else none
  | _, _ => none
theorem kOf_ok {X : Cx} {e : Expr} {k : L2.Key} (h : kOf e = some k) : PE X e (tC (kV k)) ∧ KeyOk k := by
  unfold kOf at h
  split at h
  · split at h
    · rename_i hs; cases h; exact ⟨pe_str, hs⟩
    · cases h
  · cases h; exact ⟨pe_int, True.intro⟩
  · cases h
theorem dOf_ok {X : Cx} {e : Expr} {d : D} (h : dOf e = some d) : PE X e (tC (vOf d)) ∧ ∀ K H O, Rep K H O d (vOf d) := by
  unfold dOf cCst at h
  split at h
  · split at h
    · cases h; exact ⟨pe_non, fun _ _ _ => .non⟩
    · cases h; exact ⟨pe_bl, fun _ _ _ => .bl _⟩
    · cases h; exact ⟨pe_int, fun _ _ _ => .int _⟩
    · split at h
      · rename_i hs
        cases h; exact ⟨pe_str, fun _ _ _ => .str _ hs⟩
      · cases h
    · cases h
  · cases h
def dcV (kvs : List (L2.Key × D)) : List (L2.Key × V) := kvs.map fun p => (p.1, vOf p.2)
theorem pairs_const : ∀ (kvs : List (L2.Key × D)) (σ : L2.St) (H : Hp) (Q : List (V × V) → Hp → Prop), Q ((dcV kvs).map fun p => (kV p.1, p.2)) H → tPairs (kvs.map fun p => (tC (kV p.1), tC (vOf p.2))) σ H Q
  | [], σ, H, Q, h => h
  | p :: r, σ, H, Q, h => by
    show tPairs (r.map fun p => (tC (kV p.1), tC (vOf p.2))) σ H fun ps H3 => Q ((kV p.1, vOf p.2) :: ps) H3
    exact pairs_const r σ H _ h
theorem merge_new : ∀ (more kvs : List (L2.Key × V)), (∀ p ∈ more, ∀ q ∈ kvs, q.1 ≠ p.1) → more.Pairwise (fun p q => q.1 ≠ p.1) → mergeK kvs more = kvs ++ more
  | [], kvs, _, _ => by rw [List.append_nil]; rfl
  | p :: r, kvs, h, w => by
    obtain ⟨w1, w2⟩ := List.pairwise_cons.mp w
    have e : putK kvs p.1 p.2 = kvs ++ [p] := by
      unfold putK
      rw [if_neg]
      intro q
      obtain ⟨y, hy, e⟩ := List.any_eq_true.mp q
      exact h p List.mem_cons_self y hy (of_decide_eq_true e)
    show mergeK (putK kvs p.1 p.2) r = _
    rw [e, merge_new r _ (fun x hx q hq => ?_) w2, List.append_assoc]
    · rfl
    · rcases List.mem_append.mp hq with hq | hq
      · exact h x (List.mem_cons_of_mem _ hx) q hq
      · rw [List.mem_singleton.mp hq]; exact fun e => w1 x hx e.symm
theorem cDic_ok {X : Cx} {pos : Pos} : ∀ {ks : List (Option Expr)} {vs : List Expr} {kvs : List (L2.Key × D)}, cDic ks vs = some kvs →
    PPs X pos ks vs (kvs.map fun p => (tC (kV p.1), tC (vOf p.2))) ∧ ks.all (·.isSome) = true ∧ ks.length = vs.length ∧ ks.length = kvs.length ∧ (∀ p ∈ kvs, KeyOk p.1 ∧ ∀ K H O, Rep K H O p.2 (vOf p.2)) ∧ (dcV kvs).Pairwise (fun p q => q.1 ≠ p.1)
  | [], [], kvs, h => by cases h; exact ⟨pps_nil, rfl, rfl, rfl, (fun p h => by cases h), .nil⟩
  | some k :: ks, v :: vs, kvs, h => by
    unfold cDic at h
    obtain ⟨k', h1, h⟩ := bindS h
    obtain ⟨d, h2, h⟩ := bindS h
    obtain ⟨r, h3, h⟩ := bindS h
    split at h
    · rename_i hn
      cases h
      obtain ⟨i1, i2, i3, i4, i5, i6⟩ := cDic_ok (X := X) (pos := pos) h3
      obtain ⟨d1, d2⟩ := dOf_ok (X := X) h2
      refine ⟨pps_cons (kOf_ok h1).1 d1 i1, by rw [List.all_cons, i2]; rfl, by simp [i3], by simp [i4], fun p hp => ?_, ?_⟩
      · rcases List.mem_cons.mp hp with e | hp
        · rw [e]; exact ⟨(kOf_ok (X := X) h1).2, d2⟩
        · exact i5 p hp
      · refine List.pairwise_cons.mpr ⟨fun q hq => ?_, i6⟩
        obtain ⟨y, hy, e⟩ := List.mem_map.mp hq
        have := List.all_eq_true.mp hn y hy
        rw [← e]
        simpa using this
    · cases h
  | none :: _, _, _, h => by cases h
  | some _ :: _, [], _, h => by cases h
  | [], _ :: _, _, h => by cases h
theorem repK_dc {K : PySem.W.Frag} {H : Hp} {O : AS} : ∀ {kvs : List (L2.Key × D)}, (∀ p ∈ kvs, KeyOk p.1 ∧ ∀ K H O, Rep K H O p.2 (vOf p.2)) → RepK K H O (dcD kvs) (dcV kvs)
  | [], _ => .nil
  | p :: r, h => .cons (h p List.mem_cons_self).1 ((h p List.mem_cons_self).2 K H O) (repK_dc fun q hq => h q (List.mem_cons_of_mem _ hq))
theorem zpe_dic {X : Cx} {pos : Pos} {ks : List (Option Expr)} {vs : List Expr} {kvs : List (L2.Key × D)} (h : cDic ks vs = some kvs) (hl : kvs.length ≤ 15) : PE X (.Dict ks vs pos) (tE X (eDic kvs)) := by
  obtain ⟨i1, i2, i3, i4, i5, i6⟩ := cDic_ok (X := X) (pos := pos) h
  have fin : ∀ {σ : L2.St} {H : Hp} {Q : VK}, tE X (eDic kvs) σ H Q → ∀ (p : Addr) (H' : Hp), H p = none → (∀ b, b ≠ p → H' b = H b) → H' p = some (.dK (dcV kvs)) → Q (.ref p) H' := by
    intro σ H Q hq p H' hp hk hp2
    obtain ⟨c, E, ρ, rv, ρ', hK, hR, hf, q⟩ := hq
    cases hf
    have g : Grow H H' := fun b o hb => by rw [hk b fun e => by rw [e, hp] at hb; cases hb]; exact hb
    exact q _ _ (ResB.post Stp.rfl hR ⟨g, p, rfl, hp, _, hp2, repK_dc i5⟩)
  by_cases e : kvs = []
  · subst e
    cases ks with
    | cons k ks => simp at i4
    | nil =>
      cases vs with
      | cons v vs => simp at i3
      | nil => exact ⟨fun pins s σ H Q I hq => pe_dnewK.run pins s σ H Q I fun p hp => fin hq p _ hp (fun b hb => upd_ne hb) upd_same⟩
  · refine ⟨fun pins s σ H Q I hq => (pe_disp i1 i2 i3 (fun e' => e (List.eq_nil_of_length_eq_zero (by rw [← i4, e']; rfl))) (by omega)).run pins s σ H Q I fun p hp => ?_⟩
    refine pairs_const kvs σ _ _ ⟨upd_same, dcV kvs, rfl, by unfold dcV; rw [List.length_map]; exact hl, ?_⟩
    rw [merge_new (dcV kvs) [] (fun _ _ q hq => by cases hq) i6]
    exact fin hq p _ hp (fun b hb => by rw [upd_ne hb, upd_ne hb]) upd_same
end Z
namespace Z
open PySem PySem.Spec L2
open PyProof.Rows hiding St

/-! ## methods that only read -/
def eMt (g : D → List D → Option RV) (fo : MO) (fs : MOs) : ME := fun ρ => (fo ρ).bind fun r => (r.1.get r.2).bind fun x0 => (fs r.2).bind fun s => (r.1.get s.2).bind fun x => (getAll s.2 s.1).bind fun ys =>
  if tyD x0 = tyD x then (g x ys).bind fun z => some (z, s.2) else none
structure MetR (X : Cx) (name : Str) (g : D → List D → Option RV) : Prop where
  ok : ∀ d ys rv, g d ys = some rv → ∃ (id : String) (r : V → List V → Hp → VK → Prop), PlainAttrs (tyD d) ∧ Slot (tyD d) name id ∧ typeOf (.builtin id) = pure (.type "method_descriptor") ∧ MtR X id r ∧ (tyD d = "str" ∨ tyD d = "list") ∧
    ∀ (O : AS) (H : Hp) (x : V) (zs : List V) (Q : VK), (∀ b, O b → ∃ o, H b = some o) → Top X.K H O d x → Tops X.K H O ys zs → (∀ z H', ResB X.K H O rv H' z → Q z H') → r x zs H Q
theorem tyV_top {K : PySem.W.Frag} {H : Hp} {O : AS} {d : D} {x : V} (h : tyD d = "str" ∨ tyD d = "list") (t : Top K H O d x) : tyV K (tyD d) x H := by
  cases d with
  | str s => cases t.str; exact rfl
  | list ds => obtain ⟨a, vs, rfl, ha, _⟩ := t.list; exact .inl ⟨rfl, vs, ha⟩
  | _ => rcases h with h | h <;> exact absurd h (by simp [tyD])
section
variable {X : Cx} {e : Expr} {es : List Expr} {fo : MO} {fs : MOs} {pos apos : Pos} {o : Expr} {name : Str} {g : D → List D → Option RV}
theorem zpe_mt (M : MetR X name g) (ho : PE X o (tOpd X fo)) (ha : PA X (e :: es) (tOps X fs)) (hbase : attributeBase o name X.env (eval o X.env) = eval o X.env)
    (hfew : ((backTo pos (starEach (e :: es) X.env)).all (fun x => !x.1) && (backToKw pos (keywordEach [] X.env)).all (fun x => x.1.isSome)
      && decide ((e :: es).length + ([] : List Keyword).length + (if ([] : List Keyword).isEmpty then 0 else 1) < 30)) = true)
    (hline : (apos.endLine == pos.line) = true) (hs : starEach (e :: es) X.env = (false, eval e X.env) :: starEach es X.env) (hplain : (backTo pos (starEach es X.env)).any (·.1) = false) :
    PE X (.Call (.Attribute o name apos) (e :: es) [] pos) (tE X (eMt g fo fs)) := by
  refine ⟨fun pins s σ H Q I hq => ?_⟩
  obtain ⟨c, E, ρ, rv, ρ', hK, hR, hf, q⟩ := hq
  obtain ⟨⟨p1, ρ1⟩, h1, hf⟩ := bindS hf
  obtain ⟨x0, h2, hf⟩ := bindS hf
  obtain ⟨⟨ps, ρ2⟩, h3, hf⟩ := bindS hf
  obtain ⟨x, h4, hf⟩ := bindS hf
  obtain ⟨ys, h5, hf⟩ := bindS hf
  split at hf
  · rename_i ht
    obtain ⟨w, h6, hf⟩ := bindS hf
    cases hf
    obtain ⟨id, r, pa, slot, hty, hm, hd, hr⟩ := M.ok x ys _ h6
    refine (pe_bm pa slot hty hm ho ha hbase hfew hline hs hplain).run pins s σ H Q I ?_
    refine ⟨c, E, ρ, p1, ρ1, hK, hR, h1, fun z H1 P1 => ⟨?_, c, E, ρ1, ps, ρ2, hK, P1.2.1, h3, fun zs H2 P2 => ?_⟩⟩
    · rw [← ht, ← hK]
      rw [← ht] at hd
      exact tyV_top hd (P1.top Stp.rfl P1.2.1 h2)
    · refine hr (OE ρ2 σ E) H2 z zs Q (oe_there P2.2.1) ?_ ?_ fun z2 H3 rb => q z2 H3 (ResB.post (P1.1.trans P2.1) P2.2.1 (by rw [hK]; exact rb))
      · rw [← hK]; exact P1.top P2.1 P2.2.1 h4
      · rw [← hK]; exact P2.2.2.tops P2.2.1 h5
  · cases hf
theorem zpe_mt0 (M : MetR X name g) (ho : PE X o (tOpd X fo)) (hbase : attributeBase o name X.env (eval o X.env) = eval o X.env)
    (hline : (apos.endLine == pos.line) = true) :
    PE X (.Call (.Attribute o name apos) [] [] pos) (tE X (eMt g fo osNil)) := by
  refine ⟨fun pins s σ H Q I hq => ?_⟩
  obtain ⟨c, E, ρ, rv, ρ', hK, hR, hf, q⟩ := hq
  obtain ⟨⟨p1, ρ1⟩, h1, hf⟩ := bindS hf
  obtain ⟨x0, h2, hf⟩ := bindS hf
  obtain ⟨⟨ps, ρ2⟩, h3, hf⟩ := bindS hf
  obtain ⟨x, h4, hf⟩ := bindS hf
  obtain ⟨ys, h5, hf⟩ := bindS hf
  cases h3
  split at hf
  · rename_i ht
    obtain ⟨w, h6, hf⟩ := bindS hf
    cases hf
    obtain ⟨id, r, pa, slot, hty, hm, hd, hr⟩ := M.ok x ys _ h6
    refine (pe_bm0 pa slot hty hm ho hbase hline).run pins s σ H Q I ?_
    refine ⟨c, E, ρ, p1, ρ1, hK, hR, h1, fun z H1 P1 => ⟨?_, ?_⟩⟩
    · rw [← ht, ← hK]
      rw [← ht] at hd
      exact tyV_top hd (P1.top Stp.rfl P1.2.1 h2)
    · cases h5
      refine hr (OE ρ1 σ E) H1 z [] Q (oe_there P1.2.1) ?_ True.intro fun z2 H3 rb => q z2 H3 (ResB.post P1.1 P1.2.1 (by rw [hK]; exact rb))
      rw [← hK]; exact P1.top Stp.rfl P1.2.1 h4
  · cases hf
end

def mstrsOf : List D → Option (List Str)
  | [] => some []
  | .str s :: r => (mstrsOf r).bind fun l => some (s :: l)
  | _ => none
theorem mstrsOf_ok : ∀ {ds : List D} {ys : List Str}, mstrsOf ds = some ys → ds = ys.map .str
  | [], _, h => by cases h; rfl
  | d :: r, ys, h => by
    cases d <;> first
      | (unfold mstrsOf at h; obtain ⟨l, h1, h2⟩ := bindS h; cases h2; rw [mstrsOf_ok h1]; rfl)
      | (unfold mstrsOf at h; cases h)
theorem mstrsOf_map (ys : List Str) : mstrsOf (ys.map .str) = some ys := by
  induction ys with
  | nil => rfl
  | cons y ys ih => rw [List.map_cons]; unfold mstrsOf; rw [ih]; rfl
def mjoinG (a : Str) (ds : List D) : Option RV := (mstrsOf ds).bind fun ys => if decide ((ys.map (·.length)).sum + ys.length * a.length ≤ 16777216) then some (.v (.str (Txt.join a ys))) else none
def mjoinD : D → List D → Option RV
  | .str a, [.list ds] => mjoinG a ds
  | .str a, [.tuple ds] => mjoinG a ds
  | _, _ => none
def splitD : D → List D → Option RV
  | .str a, [.str b] => if decide (b.length ≠ 0) && decide (a.length + 2 ≤ 16777216) then some (.o (.list ((Txt.split a b).map .str))) else none
  | _, _ => none
def upperD : D → List D → Option RV
  | .str a, [] => if decide (a.length ≤ 5592405) && PyData.strOk (Txt.upper a) then some (.v (.str (Txt.upper a))) else none
  | _, _ => none
def startD : D → List D → Option RV
  | .str a, [.str b] => some (.v (.bool (Txt.startswith a b)))
  | _, _ => none
def countD : D → List D → Option RV
  | .str a, [.str b] => some (.v (.int (Txt.count a b)))
  | .list ds, [d] => if okE d && okE (.list ds) then some (.v (.int (ds.countP fun y => PyData.eqv y d : Nat))) else none
  | _, _ => none
def indexD : D → List D → Option RV
  | .list ds, [d] => if okE d && okE (.list ds) then (fstEq ds d).bind fun j => some (.v (.int (j : Nat))) else none
  | _, _ => none
theorem strOk_join {a : Str} (ha : PyData.strOk a = true) : ∀ {ys : List Str}, (∀ y ∈ ys, PyData.strOk y = true) → PyData.strOk (Txt.join a ys) = true := by
  intro ys h
  show PyData.strOk (Builtin.Str.glued a ys) = true
  rw [StrLaws.glued_eq_join]
  match ys, h with
  | [], _ => rw [strOk_iff]; intro c hc; exact absurd hc (by show ¬ c ∈ ([] : List Nat); simp)
  | [x], h => exact h x List.mem_cons_self
  | x :: y :: r, h =>
    have ih := strOk_join ha (ys := y :: r) fun z hz => h z (List.mem_cons_of_mem _ hz)
    have ih2 : PyData.strOk (Str.join a (y :: r)) = true := by rw [← StrLaws.glued_eq_join]; exact ih
    show PyData.strOk (x ++ a ++ Str.join a (y :: r)) = true
    exact strOk_app (strOk_app (h x List.mem_cons_self) ha) ih2
termination_by ys => ys.length
theorem strOk_sub {a : Str} {i j : Nat} (h : PyData.strOk a = true) : PyData.strOk (Builtin.Str.strSub a i j) = true := by
  rw [strOk_iff] at *
  intro c hc
  have e : (Builtin.Str.strSub a i j).cps.toList = (a.cps.extract i j).toList := rfl
  rw [e, Array.toList_extract, List.extract_eq_drop_take] at hc
  exact h c (List.mem_of_mem_drop (List.mem_of_mem_take hc))
theorem strOk_split {a b : Str} (h : PyData.strOk a = true) : ∀ y ∈ Txt.split a b, PyData.strOk y = true := by
  intro y hy
  unfold Txt.split at hy
  split at hy
  · rw [List.mem_singleton.mp hy]; exact h
  · split at hy
    · rw [List.mem_singleton.mp hy]; exact h
    · unfold Builtin.Str.partsBetween at hy
      obtain ⟨p, _, rfl⟩ := List.mem_map.mp hy
      exact strOk_sub h
theorem reps_strs {K : PySem.W.Frag} {H : Hp} {O : AS} : ∀ {ys : List Str}, (∀ y ∈ ys, PyData.strOk y = true) → Reps K H O (ys.map .str) (ys.map V.str)
  | [], _ => .nil
  | y :: ys, h => .cons (.str y (h y List.mem_cons_self)) (reps_strs fun z hz => h z (List.mem_cons_of_mem _ hz))
theorem strOk_reps {K : PySem.W.Frag} {H : Hp} {O : AS} : ∀ {ys : List Str} {vs : List V}, Reps K H O (ys.map .str) vs → ∀ y ∈ ys, PyData.strOk y = true
  | [], _, _ => fun _ h => by cases h
  | y :: ys, _, .cons r t => by
    intro z hz
    cases r with
    | str _ q =>
      rcases List.mem_cons.mp hz with rfl | hz
      · exact q
      · exact strOk_reps t z hz
section
variable {X : Cx}
theorem met_join : MetR X "join" mjoinD := by
  refine ⟨fun d ys rv h => ?_⟩
  have key : ∀ (a : Str) (ds : List D), mjoinG a ds = some rv → (∃ zs, ds = List.map .str zs ∧ (zs.map (·.length)).sum + zs.length * a.length ≤ 16777216 ∧ rv = .v (.str (Txt.join a zs))) := fun a ds h => by
    unfold mjoinG at h
    obtain ⟨zs, h1, h⟩ := bindS h
    split at h
    · rename_i hz
      cases h
      exact ⟨zs, mstrsOf_ok h1, of_decide_eq_true hz, rfl⟩
    · cases h
  unfold mjoinD at h
  split at h
  · rename_i a ds
    obtain ⟨zs, rfl, hz, rfl⟩ := key a ds h
    refine ⟨_, _, PySem.F.plainAttrs_str, PySem.F.slot_str_join, PySem.F.type_str_join, mt_join, .inl rfl, fun O H x xs Q hO t ts q => ?_⟩
    obtain ⟨y, rfl, t1⟩ := tops1 ts
    obtain ⟨p, vs, rfl, ha, r⟩ := t1.list
    have ok := strOk_reps r
    have sk := t.strOk
    cases t.str
    have e := r.strs rfl
    subst e
    exact ⟨a, p, zs, rfl, rfl, .inl ha, hz, q _ _ (resV (.str _ (strOk_join sk ok)))⟩
  · rename_i a ds
    obtain ⟨zs, rfl, hz, rfl⟩ := key a ds h
    refine ⟨_, _, PySem.F.plainAttrs_str, PySem.F.slot_str_join, PySem.F.type_str_join, mt_join, .inl rfl, fun O H x xs Q hO t ts q => ?_⟩
    obtain ⟨y, rfl, t1⟩ := tops1 ts
    obtain ⟨p, vs, rfl, ha, r⟩ := t1.tuple
    have ok := strOk_reps r
    have sk := t.strOk
    cases t.str
    have e := r.strs rfl
    subst e
    exact ⟨a, p, zs, rfl, rfl, .inr ha, hz, q _ _ (resV (.str _ (strOk_join sk ok)))⟩
  · cases h
theorem met_split : MetR X "split" splitD := by
  refine ⟨fun d ys rv h => ?_⟩
  unfold splitD at h
  split at h
  · rename_i a b
    split at h
    · rename_i hc
      rw [Bool.and_eq_true, decide_eq_true_eq, decide_eq_true_eq] at hc
      cases h
      refine ⟨_, _, PySem.F.plainAttrs_str, PySem.F.slot_str_split, PySem.F.type_str_split, mt_split, .inl rfl, fun O H x xs Q hO t ts q => ?_⟩
      obtain ⟨y, rfl, t1⟩ := tops1 ts
      have sk := t.strOk
      cases t.str
      cases t1.str
      refine ⟨a, b, rfl, rfl, by simpa using hc.1, by rw [sizeLine_eq]; exact hc.2, fun p np => q _ _ (resLst (reps_strs (strOk_split sk)) np)⟩
    · cases h
  · cases h
theorem met_upper : MetR X "upper" upperD := by
  refine ⟨fun d ys rv h => ?_⟩
  unfold upperD at h
  split at h
  · rename_i a
    split at h
    · rename_i hc
      rw [Bool.and_eq_true, decide_eq_true_eq] at hc
      cases h
      refine ⟨_, _, PySem.F.plainAttrs_str, PySem.F.slot_str_upper, PySem.F.type_str_upper, mt_upper, .inl rfl, fun O H x xs Q hO t ts q => ?_⟩
      cases t.str
      cases xs with
      | nil => exact ⟨a, rfl, rfl, hc.1, q _ _ (resV (.str _ hc.2))⟩
      | cons y ys => exact (show False from ts).elim
    · cases h
  · cases h
theorem met_start : MetR X "startswith" startD := by
  refine ⟨fun d ys rv h => ?_⟩
  unfold startD at h
  split at h
  · rename_i a b
    cases h
    refine ⟨_, _, PySem.F.plainAttrs_str, PySem.F.slot_str_startswith, PySem.F.type_str_startswith, mt_startswith, .inl rfl, fun O H x xs Q hO t ts q => ?_⟩
    obtain ⟨y, rfl, t1⟩ := tops1 ts
    cases t.str
    cases t1.str
    exact ⟨a, b, rfl, rfl, q _ _ (resV (.bl _))⟩
  · cases h
theorem mshaped_of {d : D} (a : d.canLay0 = true) (b : d.depth ≤ 60) : SeqAt.shaped d = true := by
  unfold SeqAt.shaped
  rw [a, decide_eq_true (show d.depth ≤ 64 by omega)]; rfl
theorem met_index (hu : X.A.units + 66 < cLine) : MetR X "index" indexD := by
  refine ⟨fun d ys rv h => ?_⟩
  unfold indexD at h
  split at h
  · rename_i ds k
    split at h
    · rename_i hc
      rw [Bool.and_eq_true] at hc
      obtain ⟨j, hk, h⟩ := bindS h
      cases h
      refine ⟨_, _, PySem.F.plainAttrs_list, PySem.F.slot_list_index, PySem.F.type_list_index, mt_indexD (X := X) (Nat.lt_of_succ_lt hu), .inr rfl, fun O H x xs Q hO t ts q => ?_⟩
      obtain ⟨y, rfl, t1⟩ := tops1 ts
      obtain ⟨_, l1, d1, p1⟩ := okE_ok hc.2 t
      obtain ⟨_, l2, d2, p2⟩ := okE_ok hc.1 t1
      obtain ⟨w, w1, w2, w3⟩ := fstEq_ok hk
      obtain ⟨a0, vs0, rfl, _, _⟩ := t.list
      exact ⟨a0, y, k, ds, j, w, rfl, rfl, p1, p2, mshaped_of l1 d1, mshaped_of l2 d2, w1, w2, w3, q _ _ (resV (.int _))⟩
    · cases h
  · cases h
def rCntD (K : PySem.W.Frag) : V → List V → Hp → VK → Prop := fun x xs H Q => ∃ (a : Addr) (y : V) (d : PyData) (ds : List PyData), x = V.ref a ∧ xs = [y] ∧ Dp K H (V.ref a) (.list ds) ∧ Dp K H y d ∧
  SeqAt.shaped (.list ds) = true ∧ SeqAt.shaped d = true ∧ Q (.int (ds.countP fun z => PyData.eqv z d : Nat)) H
theorem mt_countD (hu : X.A.units + 65 < cLine) : MtR X "list.count" (rCntD X.K) := by
  intro pins s σ H x xs v us Q I rx rxs h
  obtain ⟨a, y, d, ds, rfl, rfl, hl, hy, sl, sd, q⟩ := h
  cases rx
  cases rxs with
  | cons ry rt =>
    rename_i uy ut
    cases rt
    obtain ⟨bs, r1⟩ := Dp.reads I d y uy hy ry
    have hxs : PyData.canLayAll0 ds = true := SeqAt.canLay_of_shaped sl
    have hroom : X.A.units + 1 + min (PyData.depthAll ds) d.depth < cLine := room_in_shaped sd hu
    cases hl with
    | lst hs ha =>
      obtain ⟨its, rv, ⟨⟨cls, dd, data, sls⟩, n, ho, hc, hdn, hdt⟩, hlen⟩ := I.list hs
      simp only at hc hdt
      subst hc hdt
      obtain ⟨as, h4⟩ := Dp.readsAll I ds _ its ha rv
      have hmap : its.map (SeqAt.readOf s.heap) = ds := SeqAt.readsAll_map ds its as hxs h4
      have e : its.toArray.toList.countP (fun u => PyData.eqv (SeqAt.readOf s.heap u) d) = ds.countP fun z => PyData.eqv z d := by
        rw [← hmap, List.countP_map]; rfl
      refine call_meets PySem.F.slot_list_count ⟨_, ho, rfl⟩ PySem.F.entry_list_count (PySem.F.args_list_count_2 _ _)
        (SeqAt.list_countAt a its.toArray n dd sls uy (fun u => PyData.eqv (SeqAt.readOf s.heap u) d)) ⟨ho, SeqAt.items_eqAt (vs := its.toArray) (show ReadsAll s.heap its.toArray.toList ds as from h4) r1 hxs (SeqAt.canLay_of_shaped sd) hroom, ?_⟩
      rw [e]
      exact ⟨.int (ds.countP fun z => PyData.eqv z d : Nat), H, I.tok _, ⟨_, rfl⟩, q⟩
theorem met_count (hu : X.A.units + 66 < cLine) : MetR X "count" countD := by
  refine ⟨fun d ys rv h => ?_⟩
  unfold countD at h
  split at h
  · rename_i a b
    cases h
    refine ⟨_, _, PySem.F.plainAttrs_str, PySem.F.slot_str_count, PySem.F.type_str_count, mt_count, .inl rfl, fun O H x xs Q hO t ts q => ?_⟩
    obtain ⟨y, rfl, t1⟩ := tops1 ts
    cases t.str
    cases t1.str
    exact ⟨a, b, rfl, rfl, q _ _ (resV (.int _))⟩
  · rename_i ds k
    split at h
    · rename_i hc
      rw [Bool.and_eq_true] at hc
      cases h
      refine ⟨_, _, PySem.F.plainAttrs_list, PySem.F.slot_list_count, PySem.F.type_list_count, mt_countD (X := X) (Nat.lt_of_succ_lt hu), .inr rfl, fun O H x xs Q hO t ts q => ?_⟩
      obtain ⟨y, rfl, t1⟩ := tops1 ts
      obtain ⟨_, l1, d1, p1⟩ := okE_ok hc.2 t
      obtain ⟨_, l2, d2, p2⟩ := okE_ok hc.1 t1
      obtain ⟨a0, vs0, rfl, _, _⟩ := t.list
      exact ⟨a0, y, k, ds, rfl, rfl, p1, p2, mshaped_of l1 d1, mshaped_of l2 d2, q _ _ (resV (.int _))⟩
    · cases h
  · cases h
end
def methB (x : Str) : Option (D → List D → Option RV) :=
  if x = ("join" : Str) then some mjoinD else if x = ("split" : Str) then some splitD else if x = ("upper" : Str) then some upperD else if x = ("startswith" : Str) then some startD
  else if x = ("count" : Str) then some countD else if x = ("index" : Str) then some indexD else none
theorem methB_ok {X : Cx} (hu : X.A.units + 66 < cLine) {x : Str} {g : D → List D → Option RV} (h : methB x = some g) : MetR X x g := by
  unfold methB at h
  repeat' split at h
  all_goals first
    | (rename_i e; subst e; cases h; first | exact met_join | exact met_split | exact met_upper | exact met_start | exact met_count hu | exact met_index hu)
    | cases h
end Z
namespace Z
open PySem PySem.Spec L2
open PyProof.Rows hiding St

/-! ## from the text to evaluator functions: expressions -/
structure Tab where
  fn : Str → Option FnS
  con : Str → Option D
  kw : Str → Nat → List Str → Option (List Nat)
structure Co where
  e : Scope → Expr → Option ME
  b : Scope → Expr → Option MB
def ixOf : List Str → Str → Option Nat
  | [], _ => none
  | y :: r, x => if y = x then some 0 else (ixOf r x).bind fun i => some (i + 1)
theorem ixOf_ok : ∀ {N : List Str} {x : Str} {i : Nat}, ixOf N x = some i → N[i]? = some x
  | [], _, _, h => by cases h
  | y :: r, x, i, h => by
    unfold ixOf at h
    split at h
    · rename_i e; cases h; rw [e]; rfl
    · obtain ⟨j, e1, e2⟩ := bindS h
      cases e2
      exact ixOf_ok (N := r) e1
def okNm (x : Str) : Bool := !(x == ("__debug__" : Str)) && !(x == ("__classdict__" : Str)) && !(x == ("__name__" : Str))
def locIx (N : List Str) (sc : Scope) (x : Str) : Option Nat := match sc.names.lookup x with
  | some .local => if okNm x then ixOf N x else none
  | some .cell => if okNm x then ixOf N x else none
  | some .free => if okNm x then ixOf N x else none
  | _ => none
def isGl (sc : Scope) (x : Str) : Bool := okNm x && decide (sc.names.lookup x = some .globalImplicit)
def notStar : Expr → Bool
  | .Starred .. => false
  | _ => true
def notSet : Expr → Bool
  | .Set .. => false
  | _ => true
def notSlice : Expr → Bool
  | .Slice .. => false
  | _ => true
def notComp : Expr → Bool
  | .ListComp .. => false
  | .SetComp .. => false
  | .DictComp .. => false
  | _ => true
def plainTest : Expr → Bool
  | .UnaryOp .Not _ _ => false
  | .BoolOp .. => false
  | .IfExp .. => false
  | .Compare .. => false
  | _ => true
theorem star_ok {e : Expr} {es : List Expr} {env : Env} (h : notStar e = true) : starEach (e :: es) env = (false, eval e env) :: starEach es env := by
  cases e <;> first | rfl | cases h
theorem set_ok {e : Expr} {op : CmpOp} (h : notSet e = true) : behindInMarks op e = false := by
  cases e <;> first | rfl | cases h
theorem fold_ok {e : Expr} {env : Env} (h : notSet e = true) : ∀ x, foldedSetIterable e env x = pure x := by
  intro x
  cases e <;> first | rfl | cases h
theorem slice_ok {e : Expr} (h : notSlice e = true) : PlainIx e := by
  intro o i
  cases e <;> first | rfl | cases h
theorem test_ok {e : Expr} {env : Env} (h : plainTest e = true) : ∀ whole, isTrue e env whole = (do let v ← whole; standAt e.pos; holding [v] (truthy v)) := by
  intro whole
  cases e with
  | UnaryOp op a p => cases op <;> first | rfl | cases h
  | _ => first | rfl | cases h
theorem swap_ok {e : Expr} {tg : Option Expr} {l : Nat} {env : Env} (h : notComp e = true) : swapsWith e tg l env = pure false := by
  cases e <;> first | rfl | cases h

def opB : Operator → Option (D → D → Option RV)
  | .Add => some addD
  | .Sub => some subD
  | .Mult => some mulD
  | .FloorDiv => some fdivD
  | .Mod => some modD
  | .Pow => some powD
  | _ => none
def cmpB : CmpOp → Option (D → D → Option RV)
  | .Lt => some ltD
  | .LtE => some leD
  | .Gt => some gtD
  | .GtE => some geD
  | .Eq => some eqD
  | .NotEq => some neD
  | .In => some inD
  | .NotIn => some notInD
  | .Is => some isD
  | .IsNot => some isNotD
def bltB0 (x : Str) : Option (List D → Option RV) :=
  if x = ("len" : Str) then some lenD else if x = ("abs" : Str) then some absD else if x = ("max" : Str) then some maxD else if x = ("min" : Str) then some minD
  else if x = ("sum" : Str) then some sumD else if x = ("all" : Str) then some allD else if x = ("any" : Str) then some anyD else if x = ("divmod" : Str) then some divmodD
  else if x = ("int" : Str) then some intD else if x = ("tuple" : Str) then some tupleD else if x = ("list" : Str) then some listD
  else if x = ("str" : Str) then some strD else none
def bltB (x : Str) : Option (List D → Option RV) := if x = ("sorted" : Str) then some sortedD else bltB0 x
def tyB (x : Str) : Option String :=
  if x = ("int" : Str) then some "int" else if x = ("bool" : Str) then some "bool" else if x = ("str" : Str) then some "str" else if x = ("list" : Str) then some "list"
  else if x = ("tuple" : Str) then some "tuple" else if x = ("dict" : Str) then some "dict" else none
theorem opB_ok {X : Cx} {op : Operator} {g : D → D → Option RV} (h : opB op = some g) : OpR X (binaryOp op) (rD2 X.K g) := by
  cases op <;> first
    | (cases h; first | exact od_add | exact od_sub | exact od_mul | exact od_fdiv | exact od_mod | exact od_pow)
    | cases h
theorem cmpB_ok {X : Cx} (hu : X.A.units + 66 < cLine) {op : CmpOp} {g : D → D → Option RV} (h : cmpB op = some g) : OpR X (compareOp op) (rD2 X.K g) := by
  cases op <;> (cases h; first | exact od_lt hu | exact od_le hu | exact od_gt hu | exact od_ge hu | exact od_eq hu | exact od_ne hu | exact od_in hu | exact od_notIn hu | exact od_is | exact od_isNot)
theorem bltB0_ok {X : Cx} (hc : X.calm = true) {x : Str} {g : List D → Option RV} (h : bltB0 x = some g) :
    (∃ id, bootBuiltins x = some (.builtin id) ∧ CallR X (.builtin id) (rDs X.K g)) ∨ ∃ T, bootBuiltins x = some (.type T) ∧ CallR X (.type T) (rDs X.K g) := by
  unfold bltB0 at h
  repeat' split at h
  all_goals first
    | (rename_i e; subst e; cases h; first
        | exact .inl ⟨"len", by decide +kernel, cd_len⟩
        | exact .inl ⟨"abs", by decide +kernel, cd_abs⟩
        | exact .inl ⟨"max", by decide +kernel, cd_max hc⟩
        | exact .inl ⟨"min", by decide +kernel, cd_min hc⟩
        | exact .inl ⟨"sum", by decide +kernel, cd_sum hc⟩
        | exact .inl ⟨"all", by decide +kernel, cd_all hc⟩
        | exact .inl ⟨"any", by decide +kernel, cd_any hc⟩
        | exact .inl ⟨"divmod", by decide +kernel, cd_divmod⟩
        | exact .inr ⟨"int", by decide +kernel, cd_int⟩
        | exact .inr ⟨"tuple", by decide +kernel, cd_tuple⟩
        | exact .inr ⟨"list", by decide +kernel, cd_list hc⟩
        | exact .inr ⟨"str", by decide +kernel, cd_str⟩)
    | cases h
theorem bltB_ok {X : Cx} (hu : X.A.units + 66 < cLine) (hc : X.calm = true) {x : Str} {g : List D → Option RV} (h : bltB x = some g) :
    (∃ id, bootBuiltins x = some (.builtin id) ∧ CallR X (.builtin id) (rDs X.K g)) ∨ ∃ T, bootBuiltins x = some (.type T) ∧ CallR X (.type T) (rDs X.K g) := by
  unfold bltB at h
  split at h
  · rename_i e; subst e; cases h; exact .inl ⟨"sorted", by decide +kernel, cd_sorted hu⟩
  · exact bltB0_ok hc h
theorem tyB_ok {x : Str} {T : String} (h : tyB x = some T) : bootBuiltins x = some (.type T) ∧ T ∈ knownTy := by
  unfold tyB at h
  repeat' split at h
  all_goals first
    | (rename_i e; subst e; cases h; exact ⟨by decide +kernel, by decide⟩)
    | cases h

section
variable (T : Tab) (N : List Str) (c : Co)
/-- an operand -/
def cO (sc : Scope) (a : Expr) : Option MO := match a with
  | .Name x p => match locIx N sc x with
    | some i => some (oSl i)
    | none => (c.e sc (.Name x p)).bind fun f => some (oTv f)
  | a => (c.e sc a).bind fun f => some (oTv f)
def cOs (sc : Scope) : List Expr → Option MOs
  | [] => some osNil
  | e :: es => if notStar e then (cO N c sc e).bind fun f => (cOs sc es).bind fun g => some (osCons f g) else none
/-- values that are kept -/
def cTs (sc : Scope) : List Expr → Option MOs
  | [] => some osNil
  | e :: es => if notStar e then (c.e sc e).bind fun f => (cTs sc es).bind fun g => some (osCons (oTv f) g) else none
def isNm : Expr → Option Str
  | .Name x _ => some x
  | _ => none
def cAs (sc : Scope) : List Bool → List Expr → Option MAs
  | [], [] => some aNil
  | false :: ms, e :: es => if notStar e then (c.e sc e).bind fun f => (cAs sc ms es).bind fun g => some (aTv f g) else none
  | true :: ms, e :: es => if notStar e then match (isNm e).bind (locIx N sc) with
      | some i => (cAs sc ms es).bind fun g => some (aSl i g)
      | none => (c.e sc e).bind fun f => (cAs sc ms es).bind fun g => some (aOw f g)
    else none
  | _, _ => none
def cTys (sc : Scope) : List Expr → Option (List String)
  | [] => some []
  | .Name x _ :: es => if isGl sc x then (tyB x).bind fun t => (cTys sc es).bind fun r => some (t :: r) else none
  | _ :: _ => none
def cC : Const → Option D
  | .none => some .none
  | .bool b => some (.bool b)
  | .int i => some (.int i)
  | .str s => if PyData.strOk s then some (.str s) else none
  | _ => none
def cPart (sc : Scope) : Option Expr → Option MI
  | none => some iNo
  | some e => (c.e sc e).bind fun f => some (iSome f)
/-- a target: what it stores to -/
def cGs (f : Expr → Option (SG × List Nat)) : List Expr → Option (SGs × List Nat)
  | [] => some (gNil, [])
  | e :: es => if notStar e then (f e).bind fun g => (cGs f es).bind fun h => some (gCons g.1 h.1, g.2 ++ h.2) else none
def cG (pr : List Nat) (sc : Scope) : Nat → Expr → Option (SG × List Nat)
  | _, .Name x _ => if decide (sc.names.lookup x = some .local) || decide (sc.names.lookup x = some .cell) then (locIx N sc x).bind fun i => some (gN pr i, [i]) else none
  | n + 1, .Tuple es _ _ => (cGs (cG pr sc n) es).bind fun h => some (gTn es.length h.1, h.2)
  | _, .Subscript (.Name x _) ie _ => if notSlice ie then (locIx N sc x).bind fun i => (c.e sc ie).bind fun f => some (gIx i f, []) else none
  | _, _ => none
def isTup : Expr → Bool
  | .Tuple .. => true
  | _ => false
/-- what is walked -/
def cI (sc : Scope) (tg : Expr) (it : Expr) : Option MIt := match it with
  | .Call (.Name x p) es [] pos =>
    if isGl sc x && decide (x = ("range" : Str)) then (cTs c sc es).bind fun fs => match es with
      | [_] => some (iFn rng1 fs)
      | [_, _] => some (iFn rng2 fs)
      | [_, _, _] => some (iFn rng3 fs)
      | _ => none
    else if isGl sc x && decide (x = ("enumerate" : Str)) then if isTup tg then (cTs c sc es).bind fun fs => match es with
        | [_] => some (iFn enuD fs)
        | _ => none
      else none
    else if isGl sc x && decide (x = ("zip" : Str)) then if isTup tg then (cTs c sc es).bind fun fs => match es with
        | [_, _] => some (iFn zpD fs)
        | _ => none
      else none
    else (c.e sc (.Call (.Name x p) es [] pos)).bind fun f => some (iSeq f)
  | .Set _ _ _ => none
  | it => (c.e sc it).bind fun f => some (iSeq f)
def cTests (sc : Scope) : List Expr → Option MB
  | [] => some bYes
  | [t] => c.b sc t
  | _ => none
def ownOf (scope : Scope) : Option (List (Str × Nat)) := (scope.names.foldr (fun y r => match y.2 with
  | .local => match ixOf N y.1 with
    | some i => r.bind fun l => some ((y.1, i) :: l)
    | none => r
  | .cell => match ixOf N y.1 with
    | some i => r.bind fun l => some ((y.1, i) :: l)
    | none => r
  | _ => r) (some []))
def cLc (sc : Scope) (elt : Expr) (gs : List Comprehension) (scope : Scope) : Option ME := match gs with
  | [⟨tg, iter, ifs, 0⟩] => (ownOf N scope).bind fun own => if blkC N sc scope own && notSet iter then (cI c sc tg iter).bind fun fi => (cG N c [] scope 4 tg).bind fun g =>
      if g.2.all (fun i => (own.map (·.2)).contains i) then (cTests c scope ifs).bind fun t => (c.e scope elt).bind fun f => some (eLc (own.map (·.2)) fi g.1 t f) else none
    else none
  | _ => none
def cLc2 (sc : Scope) (elt : Expr) (gs : List Comprehension) (scope : Scope) : Option ME := match gs with
  | [⟨tg, iter, ifs, 0⟩, ⟨tg1, iter1, ifs1, 0⟩] => (ownOf N scope).bind fun own => if blkC N sc scope own && notSet iter && notSet iter1 then (cI c sc tg iter).bind fun fi => (cG N c [] scope 4 tg).bind fun g => (cI c scope tg1 iter1).bind fun fi1 => (cG N c [] scope 4 tg1).bind fun g1 =>
      if g.2.all (fun i => (own.map (·.2)).contains i) && g1.2.all (fun i => (own.map (·.2)).contains i) then (cTests c scope ifs).bind fun t => (cTests c scope ifs1).bind fun t1 => (c.e scope elt).bind fun f => some (eLc2 (own.map (·.2)) g1.2 fi g.1 t fi1 g1.1 t1 f) else none
    else none
  | _ => none
def cLcA (sc : Scope) (elt : Expr) (gs : List Comprehension) (scope : Scope) : Option ME := match gs with
  | [_, _] => cLc2 N c sc elt gs scope
  | _ => cLc N c sc elt gs scope
/-- the arguments of list(range(..)) -/
def rngOf (sc : Scope) : List Expr → Option (List Expr)
  | [.Call (.Name y _) es [] _] => if decide (y = ("range" : Str)) && isGl sc y then some es else none
  | _ => none
def cRg (sc : Scope) (lst : Bool) : List Expr → Option ME
  | [a] => if notStar a then (c.e sc a).bind fun f => some (eRg1 lst f) else none
  | [a, b] => if notStar a && notStar b then (c.e sc a).bind fun f => (c.e sc b).bind fun g => some (eRg2 lst f g) else none
  | _ => none
def cKw (sc : Scope) : List Keyword → Option (MOs × List Str)
  | [] => some (osNil, [])
  | ⟨some n, e, _⟩ :: r => (c.e sc e).bind fun f => (cKw sc r).bind fun g => some (osCons (oTv f) g.1, n :: g.2)
  | _ => none
def cCallK (sc : Scope) (x : Str) (es : List Expr) (kws : List Keyword) : Option ME :=
  if isGl sc x then (T.fn x).bind fun F => (cTs c sc es).bind fun fs => (cKw c sc kws).bind fun g => (T.kw x es.length g.2).bind fun pm => some (eCallK F es.length g.2.length pm fs g.1)
  else none
def cBlt (sc : Scope) (x : Str) (es : List Expr) : Option ME :=
  if decide (x = ("isinstance" : Str)) then match es with
        | [a, .Name t p] => if notStar a then (cO N c sc a).bind fun fo => (cTys sc [.Name t p]).bind fun Ts => some (eIsi Ts fo) else none
        | [a, .Tuple ts _ _] => if notStar a && szb ts.length then (cO N c sc a).bind fun fo => (cTys sc ts).bind fun Ts => some (eIsi Ts fo) else none
        | _ => none
  else if es.isEmpty then none else (bltB x).bind fun g => (cOs N c sc es).bind fun fs => some (eB g fs)
def cCall (sc : Scope) (x : Str) (es : List Expr) : Option ME :=
  if isGl sc x then match T.fn x with
    | some F => (cAs N c sc F.mask es).bind fun fs => some (eCall F fs)
    | none => if decide (x = ("list" : Str)) || decide (x = ("tuple" : Str)) then match rngOf sc es with
        | some as => cRg c sc (decide (x = ("list" : Str))) as
        | none => cBlt N c sc x es
      else cBlt N c sc x es
  else match locIx N sc x with
    | some i => if es.isEmpty then none else (cTs c sc es).bind fun fs => some (eCallV T.fn i fs)
    | none => none
def okBase : Expr → Bool
  | .Name .. => true
  | .Constant .. => true
  | .Subscript .. => true
  | _ => false
/-- methods that only read -/
def cMet2 (sc : Scope) (o : Expr) (m : Str) (es : List Expr) : Option ME :=
  if okBase o then (methB m).bind fun g => (cO N c sc o).bind fun fo => match es with
    | [] => some (eMt g fo osNil)
    | [e] => if notStar e then (cOs N c sc [e]).bind fun fs => some (eMt g fo fs) else none
    | _ => none
  else none
def cMeth (sc : Scope) (o : Expr) (m : Str) (es : List Expr) (apos pos : Pos) : Option ME :=
  if apos.endLine == pos.line then match (isNm o).bind (locIx N sc) with
    | some i => if decide (m = ("append" : Str)) then match es with
        | [e] => if notStar e then (c.e sc e).bind fun f => some (eApp i f) else none
        | _ => none
      else if decide (m = ("pop" : Str)) then match es with
        | [] => some (ePop i)
        | [e] => if notStar e then (c.e sc e).bind fun f => some (ePopAt i f) else none
        | _ => none
      else if decide (m = ("get" : Str)) then match es with
        | [e] => if notStar e then (c.e sc e).bind fun f => some (eGet1 i f) else none
        | [e, x] => if notStar e && notStar x then (c.e sc e).bind fun f => (c.e sc x).bind fun g => some (eGet2 i f g) else none
        | _ => none
      else cMet2 N c sc o m es
    | none => cMet2 N c sc o m es
  else none
def cE (sc : Scope) : Expr → Option ME
  | .Constant k _ _ => (cC k).bind fun d => some (eC d)
  | .Name x _ => match locIx N sc x with
    | some i => some (eVar i)
    | none => if isGl sc x then (T.con x).bind fun d => some (eC d) else none
  | .BinOp a op b _ => (opB op).bind fun g => (cO N c sc a).bind fun fa => (cO N c sc b).bind fun fb => some (eOp2 g fa fb)
  | .UnaryOp .Not a _ => (c.e sc a).bind fun f => some (eNot f)
  | .UnaryOp .USub a _ => (cO N c sc a).bind fun f => some (eOp1 negD f)
  | .BoolOp _ [a] _ => c.e sc a
  | .BoolOp .And (a :: b :: es) pos => (c.e sc a).bind fun f => (c.e sc (.BoolOp .And (b :: es) pos)).bind fun g => some (eAnd f g)
  | .BoolOp .Or (a :: b :: es) pos => (c.e sc a).bind fun f => (c.e sc (.BoolOp .Or (b :: es) pos)).bind fun g => some (eOr f g)
  | .IfExp t a b _ => (c.b sc t).bind fun ft => (c.e sc a).bind fun fa => (c.e sc b).bind fun fb => some (eIf ft fa fb)
  | .Compare a [op] [b] _ => if notSet b then (cmpB op).bind fun g => (cO N c sc a).bind fun fa => (cO N c sc b).bind fun fb => some (eOp2 g fa fb) else none
  | .Compare a [op, op'] [b, d] _ => if notSet d then (cmpB op).bind fun g => (cmpB op').bind fun g' => (cO N c sc a).bind fun fa => (cO N c sc b).bind fun fb => (cO N c sc d).bind fun fd => some (eChain g g' fa fb fd) else none
  | .Subscript a (.Slice lo hi none _) _ => (cO N c sc a).bind fun fa => (cPart c sc lo).bind fun fl => (cPart c sc hi).bind fun fh => some (eSl fa fl fh)
  | .Subscript a (.Slice none none (some (.UnaryOp .USub (.Constant (.int 1) _ _) _)) _) _ => (cO N c sc a).bind fun fa => some (eOp1 revD fa)
  | .Dict ks vs _ => (cDic ks vs).bind fun kvs => if decide (kvs.length ≤ 15) then some (eDic kvs) else none
  | .Subscript a b _ => if notSlice b then (cO N c sc a).bind fun fa => (cO N c sc b).bind fun fb => some (eOp2 ixD fa fb) else none
  | .Tuple es _ _ => (cTs c sc es).bind fun fs => some (eTup fs)
  | .List es _ => (cTs c sc es).bind fun fs => some (eLst fs)
  | .ListComp elt gs scope _ => cLcA N c sc elt gs scope
  | .Call (.Name x _) es [] _ => cCall T N c sc x es
  | .Call (.Name x _) es kws _ => cCallK T c sc x es kws
  | .Call (.Attribute o m apos) es [] pos => cMeth N c sc o m es apos pos
  | _ => none
def cB (sc : Scope) : Expr → Option MB
  | .UnaryOp .Not a _ => (c.b sc a).bind fun f => some (bNot f)
  | .BoolOp _ [a] _ => c.b sc a
  | .BoolOp .And (a :: b :: es) pos => (c.b sc a).bind fun f => (c.b sc (.BoolOp .And (b :: es) pos)).bind fun g => some (bAnd f g)
  | .BoolOp .Or (a :: b :: es) pos => (c.b sc a).bind fun f => (c.b sc (.BoolOp .Or (b :: es) pos)).bind fun g => some (bOr f g)
  | .Compare a [op] [b] _ => if notSet b then (cmpB op).bind fun g => (cO N c sc a).bind fun fa => (cO N c sc b).bind fun fb => some (bOp2 g fa fb) else none
  | .Compare a [op, op'] [b, d] _ => if notSet d then (cmpB op).bind fun g => (cmpB op').bind fun g' => (cO N c sc a).bind fun fa => (cO N c sc b).bind fun fb => (cO N c sc d).bind fun fd => some (bChain g g' fa fb fd) else none
  | .IfExp t a b _ => (c.b sc t).bind fun ft => (c.b sc a).bind fun fa => (c.b sc b).bind fun fb => some (bIf ft fa fb)
  | e => if plainTest e then (cO N c sc e).bind fun f => some (bTru f) else none
end
def co (T : Tab) (N : List Str) : Nat → Co
  | 0 => ⟨fun _ _ => none, fun _ _ => none⟩
  | n + 1 => ⟨cE T N (co T N n), cB N (co T N n)⟩
end Z
namespace Z
open PySem PySem.Spec L2
open PyProof.Rows hiding St

/-! ## the compiled functions are sound: expressions -/
def bltNames : List Str := ["len", "abs", "max", "min", "sum", "all", "any", "divmod", "int", "tuple", "list", "isinstance", "range", "enumerate", "zip", "bool", "str", "dict", "sorted"]
structure TabOk (k : Nat) (T : Tab) (P : Program) (w : World) (K : PySem.W.Frag) (mg : Str → Option Value) (base : Heap) : Prop where
  fn : ∀ x F, T.fn x = some F → ∃ f fd ps, mg x = some (.ref f) ∧ PySem.W.keepIn K (.ref f) = true ∧ Binds K fd ps [] ∧ FnOk P w K mg base CX0 k f fd ps (spF K F) ∧ ∀ n ks pm, T.kw x n ks = some pm → KwOk K fd ps ks n pm
  con : ∀ x d, T.con x = some d → ∃ v u, mg x = some u ∧ RelV v u ∧ ∀ H O, Rep K H O d v
  blt : ∀ x ∈ bltNames, mg x = none
  ns : ∀ x a, PySem.W.nsIn K mainGlobals x = some (some (.ref a)) → mg x = some (.ref a)
structure Ctx (k : Nat) (T : Tab) (N : List Str) (sc : Scope) (X : Cx) : Prop where
  hN : X.N = N
  nd : N.Nodup
  calm : X.calm = true
  room : Room k X.A
  pass : PassesOwn (model X.prog X.w) X.A X.env X.xe
  fit : ∀ x kd, sc.names.lookup x = some kd → (kd ≠ .free → X.env.scope.names.lookup x = some kd) ∧ (kd = .free → X.env.scope.names.lookup x = some .free ∨ X.env.scope.names.lookup x = some .cell)
  fnc : ∀ x, sc.names.lookup x = some .cell → X.fn x = true
  tab : TabOk k T X.prog X.w X.K X.mg X.base
section
variable {k : Nat} {T : Tab} {N : List Str} {sc : Scope} {X : Cx}
theorem lookup_relS_free {sc : Scope} : ∀ {names : List (Str × NameKind)} {x : Str}, names.lookup x = some .free →
    (names.map fun (n, k) => if (k == NameKind.free && sc.kind == .function && sc.names.lookup n == some .cell) then (n, NameKind.cell) else (n, k)).lookup x = some .free ∨
    (names.map fun (n, k) => if (k == NameKind.free && sc.kind == .function && sc.names.lookup n == some .cell) then (n, NameKind.cell) else (n, k)).lookup x = some .cell
  | [], _, h => by simp at h
  | (n, k₀) :: r, x, h => by
    have ih := @lookup_relS_free sc r x
    rw [List.map_cons]
    dsimp only
    cases hx : x == n with
    | true =>
      simp only [List.lookup_cons, hx] at h
      cases h
      by_cases hc : (NameKind.free == NameKind.free && sc.kind == .function && sc.names.lookup n == some .cell) = true
      · rw [if_pos hc]; simp [List.lookup_cons, hx]
      · rw [if_neg hc]; simp [List.lookup_cons, hx]
    | false =>
      simp only [List.lookup_cons, hx] at h
      by_cases hc : (k₀ == NameKind.free && sc.kind == .function && sc.names.lookup n == some .cell) = true
      · rw [if_pos hc]; simp only [List.lookup_cons, hx]; exact ih h
      · rw [if_neg hc]; simp only [List.lookup_cons, hx]; exact ih h
theorem Ctx.blk (C : Ctx k T N sc X) {scope : Scope} (s : Shared) (H : Hp) (A : Addr) (cl : List (Str × Addr)) (fp : List Addr) : Ctx k T N scope (X.blk s H scope (compEnvC scope cl A X.env) fp) := by
  refine ⟨C.hN, C.nd, C.calm, C.room, PassesOwn.never, fun x kd h => ⟨fun hk => ?_, fun hk => ?_⟩, fun x h => ?_, C.tab⟩
  · exact lookup_relS_keep (sc := X.env.scope) hk h
  · subst hk
    exact lookup_relS_free (sc := X.env.scope) h
  · show (scope.names.lookup x == some NameKind.cell) = true
    rw [h]; rfl
theorem Ctx.hu0 (C : Ctx k T N sc X) : X.A.units + 66 < cLine := by have := C.room.un; omega
theorem Ctx.gl (C : Ctx k T N sc X) {x : Str} (h : isGl sc x = true) : Gl X x ∧ (x == ("__debug__" : Str)) = false ∧ x ≠ "__name__" := by
  unfold isGl okNm at h
  simp only [Bool.and_eq_true, Bool.not_eq_true', decide_eq_true_eq] at h
  obtain ⟨⟨⟨h1, h2⟩, h3⟩, h4⟩ := h
  exact ⟨(C.fit x _ h4).1 (by decide), h1, by simpa using h3⟩
theorem Ctx.var (C : Ctx k T N sc X) {x : Str} {i : Nat} {p : Pos} (h : locIx N sc x = some i) : PE X (.Name x p) (tVar i) := by
  have key : (Vis X.env.scope x) → (if okNm x then ixOf N x else none) = some i → PE X (.Name x p) (tVar i) := fun v h => by
    split at h
    · rename_i o
      unfold okNm at o
      simp only [Bool.and_eq_true, Bool.not_eq_true'] at o
      exact pe_var (by rw [C.hN]; exact ixOf_ok h) v o.1.1 o.1.2
    · cases h
  unfold locIx at h
  split at h
  · rename_i e; exact key (.inl ((C.fit x _ e).1 (by decide))) h
  · rename_i e; exact key (.inr (.inl ((C.fit x _ e).1 (by decide)))) h
  · rename_i e
    refine key ?_ h
    rcases (C.fit x _ e).2 rfl with q | q
    · exact .inr (.inr q)
    · exact .inr (.inl q)
  · cases h
theorem locIx_ix {x : Str} {i : Nat} (h : locIx N sc x = some i) : N[i]? = some x := by
  unfold locIx at h
  split at h <;> first
    | (split at h <;> first | exact ixOf_ok h | cases h)
    | cases h
theorem Ctx.name (C : Ctx k T N sc X) {x : Str} {i : Nat} {p : Pos} (h : locIx N sc x = some i) (hk : sc.names.lookup x = some .local ∨ sc.names.lookup x = some .cell) : PG X (.Name x p) (gName i) := by
  have hi : X.N[i]? = some x := by rw [C.hN]; exact locIx_ix h
  have nd : X.N.Nodup := by rw [C.hN]; exact C.nd
  rcases hk with e | e
  · have q := (C.fit x _ e).1 (by decide)
    exact pg_name nd hi (.inl q) (.inr q)
  · exact pg_name nd hi (.inr ((C.fit x _ e).1 (by decide))) (.inl (C.fnc x e))
theorem plain_ok {env : Env} {pos : Pos} : ∀ {es : List Expr}, es.all notStar = true → (backTo pos (starEach es env)).any (·.1) = false
  | [], _ => rfl
  | e :: es, h => by
    simp only [List.all_cons, Bool.and_eq_true] at h
    rw [star_ok h.1]
    have ih := plain_ok (pos := pos) (env := env) h.2
    unfold backTo at ih ⊢
    rw [List.map_cons, List.any_cons, ih]; rfl

structure CoOk (k : Nat) (T : Tab) (N : List Str) (c : Co) : Prop where
  e : ∀ {sc : Scope} {X : Cx} {e : Expr} {f : ME}, Ctx k T N sc X → c.e sc e = some f → PE X e (tE X f)
  b : ∀ {sc : Scope} {X : Cx} {e : Expr} {f : MB}, Ctx k T N sc X → c.b sc e = some f → PT X e (tT X f)
  w : ∀ {sc : Scope} {X : Cx} {op : BoolOp} {es : List Expr} {pos : Pos} {f : MB}, Ctx k T N sc X → c.b sc (.BoolOp op es pos) = some f → PW X (.BoolOp op es pos) (tT X f)
variable {c : Co}
theorem cO_ok (S : CoOk k T N c) (C : Ctx k T N sc X) {a : Expr} {f : MO} (h : cO N c sc a = some f) : PE X a (tOpd X f) := by
  unfold cO at h
  split at h
  · split at h
    · rename_i i hi
      cases h
      exact zpo_slot (C.var hi)
    · obtain ⟨g, h1, h2⟩ := bindS h
      cases h2
      exact zpo_tv (S.e C h1)
  · obtain ⟨g, h1, h2⟩ := bindS h
    cases h2
    exact zpo_tv (S.e C h1)
theorem cOs_ok (S : CoOk k T N c) (C : Ctx k T N sc X) : ∀ {es : List Expr} {f : MOs}, cOs N c sc es = some f → PA X es (tOps X f) ∧ es.all notStar = true
  | [], f, h => by cases h; exact ⟨zpa_nil, rfl⟩
  | e :: es, f, h => by
    unfold cOs at h
    split at h
    · rename_i hs
      obtain ⟨g, h1, h⟩ := bindS h
      obtain ⟨g2, h2, h⟩ := bindS h
      cases h
      obtain ⟨i1, i2⟩ := cOs_ok S C h2
      exact ⟨zpa_cons (cO_ok S C h1) i1 (star_ok hs), by rw [List.all_cons, hs, i2]; rfl⟩
    · cases h
theorem cTs_ok (S : CoOk k T N c) (C : Ctx k T N sc X) : ∀ {es : List Expr} {f : MOs}, cTs c sc es = some f → PA X es (tOps X f) ∧ es.all notStar = true
  | [], f, h => by cases h; exact ⟨zpa_nil, rfl⟩
  | e :: es, f, h => by
    unfold cTs at h
    split at h
    · rename_i hs
      obtain ⟨g, h1, h⟩ := bindS h
      obtain ⟨g2, h2, h⟩ := bindS h
      cases h
      obtain ⟨i1, i2⟩ := cTs_ok S C h2
      exact ⟨zpa_cons (zpo_tv (S.e C h1)) i1 (star_ok hs), by rw [List.all_cons, hs, i2]; rfl⟩
    · cases h
theorem isNm_var (C : Ctx k T N sc X) {e : Expr} {i : Nat} (h : (isNm e).bind (locIx N sc) = some i) : PE X e (tVar i) := by
  obtain ⟨x, h1, h2⟩ := bindS h
  cases e <;> first
    | (cases h1; exact C.var h2)
    | cases h1
theorem cAs_ok (S : CoOk k T N c) (C : Ctx k T N sc X) : ∀ {mask : List Bool} {es : List Expr} {f : MAs}, cAs N c sc mask es = some f → PA X es (tAs X f) ∧ es.all notStar = true ∧ (es = [] → f = aNil)
  | [], [], f, h => by cases h; exact ⟨za_nil, rfl, fun _ => rfl⟩
  | false :: ms, e :: es, f, h => by
    unfold cAs at h
    split at h
    · rename_i hs
      obtain ⟨g, h1, h⟩ := bindS h
      obtain ⟨g2, h2, h⟩ := bindS h
      cases h
      obtain ⟨i1, i2, _⟩ := cAs_ok S C h2
      exact ⟨za_tv (S.e C h1) i1 (star_ok hs), by rw [List.all_cons, hs, i2]; rfl, fun h => by cases h⟩
    · cases h
  | true :: ms, e :: es, f, h => by
    unfold cAs at h
    split at h
    · rename_i hs
      split at h
      · rename_i i hi
        obtain ⟨g2, h2, h⟩ := bindS h
        cases h
        obtain ⟨i1, i2, _⟩ := cAs_ok S C h2
        exact ⟨za_sl (isNm_var C hi) i1 (star_ok hs), by rw [List.all_cons, hs, i2]; rfl, fun h => by cases h⟩
      · obtain ⟨g, h1, h⟩ := bindS h
        obtain ⟨g2, h2, h⟩ := bindS h
        cases h
        obtain ⟨i1, i2, _⟩ := cAs_ok S C h2
        exact ⟨za_ow (S.e C h1) i1 (star_ok hs), by rw [List.all_cons, hs, i2]; rfl, fun h => by cases h⟩
    · cases h
  | [], _ :: _, _, h => by cases h
  | false :: _, [], _, h => by cases h
  | true :: _, [], _, h => by cases h
theorem cTys_ok (C : Ctx k T N sc X) : ∀ {es : List Expr} {Ts : List String}, cTys sc es = some Ts → PA X es (tTys Ts) ∧ es.all notStar = true ∧ (∀ t ∈ Ts, t ∈ knownTy) ∧ Ts.length = es.length
  | [], Ts, h => by cases h; exact ⟨zt_nil, rfl, (fun t h => by cases h), rfl⟩
  | e :: es, Ts, h => by
    unfold cTys at h
    split at h
    · rename_i e1; cases e1
    · rename_i x p es' heq
      cases heq
      split at h
      · rename_i hg
        obtain ⟨t, h1, h⟩ := bindS h
        obtain ⟨r, h2, h⟩ := bindS h
        cases h
        obtain ⟨i1, i2, i3, i4⟩ := cTys_ok C h2
        obtain ⟨t1, t2⟩ := tyB_ok h1
        obtain ⟨g1, g2, g3⟩ := C.gl hg
        have hm : X.mg x = none := by
          refine C.tab.blt x ?_
          unfold tyB at h1
          repeat' split at h1
          all_goals first
            | (rename_i e; rw [e]; decide)
            | cases h1
        refine ⟨zt_cons (pe_bltn g1 hm t1 (show RelV (.ty t) (.type t) from rfl) g3 g2) i1 (star_ok rfl), by rw [List.all_cons, i2]; rfl, fun u hu => ?_, by simp [i4]⟩
        rcases List.mem_cons.mp hu with e | hu
        · rw [e]; exact t2
        · exact i3 u hu
      · cases h
    · cases h
theorem cC_ok {kc : Const} {d : D} {j : Nat} {pos : Pos} (h : cC kc = some d) : PE X (.Constant kc j pos) (tE X (eC d)) := by
  unfold cC at h
  split at h
  · cases h; exact zpe_const pe_non (fun _ _ => .non)
  · cases h; exact zpe_const pe_bl (fun _ _ => .bl _)
  · cases h; exact zpe_const pe_int (fun _ _ => .int _)
  · split at h
    · rename_i hs
      cases h; exact zpe_const pe_str (fun _ _ => .str _ hs)
    · cases h
  · cases h
theorem cPart_ok (S : CoOk k T N c) (C : Ctx k T N sc X) {o : Option Expr} {f : MI} (h : cPart c sc o = some f) : PO X o (tI X f) := by
  unfold cPart at h
  split at h
  · cases h; exact zpi_no
  · obtain ⟨g, h1, h⟩ := bindS h
    cases h
    exact zpi_some (S.e C h1)
theorem eachG {env : Env} : ∀ {es : List Expr}, es.all notStar = true → (assignEach es env).findIdx? (·.1) = none ∧ (assignEach es env).length = es.length
  | [], _ => ⟨rfl, rfl⟩
  | e :: es, h => by
    simp only [List.all_cons, Bool.and_eq_true] at h
    obtain ⟨h1, h2⟩ := eachG (env := env) h.2
    have q : assignEach (e :: es) env = (false, assign e env) :: assignEach es env := by
      cases e <;> first | rfl | (exact absurd h.1 (by simp [notStar]))
    rw [q, List.findIdx?_cons, h1, List.length_cons, h2]
    exact ⟨rfl, rfl⟩
theorem eachG_cons {env : Env} {e : Expr} {es : List Expr} (h : notStar e = true) : (assignEach (e :: es) env).map (·.2) = assign e env :: (assignEach es env).map (·.2) := by
  cases e <;> first | rfl | (exact absurd h (by simp [notStar]))
theorem asg_ok {o ie : Expr} {pos : Pos} {env : Env} (h : notSlice ie = true) : ∀ v, assign (.Subscript o ie pos) env v = (do
      let ov ← holding [v] (eval o env)
      let iv ← holding [v, ov] (eval ie env)
      standAt pos
      holding [v, ov, iv] (setItem ov iv v)
      release [v, ov, iv] []) := by
  intro v
  cases ie <;> first | rfl | cases h
theorem cGs_ok {pr : List Nat} {F : Expr → Option (SG × List Nat)} (ih : ∀ {e : Expr} {g : SG} {tv : List Nat}, F e = some (g, tv) → PG X e (tG X pr tv g)) : ∀ {es : List Expr} {g : SGs} {tv : List Nat}, cGs F es = some (g, tv) → PGs X es (tGs X pr tv g) ∧ es.all notStar = true
  | [], g, tv, h => by cases h; exact ⟨zgs_nil, rfl⟩
  | e :: es, g, tv, h => by
    unfold cGs at h
    split at h
    · rename_i hs
      obtain ⟨⟨g1, t1⟩, h1, h⟩ := bindS h
      obtain ⟨⟨g2, t2⟩, h2, h⟩ := bindS h
      cases h
      obtain ⟨i1, i2⟩ := cGs_ok ih h2
      exact ⟨zgs_cons (ih h1) i1 (eachG_cons hs), by rw [List.all_cons, hs, i2]; rfl⟩
    · cases h
theorem cG_ok (S : CoOk k T N c) (C : Ctx k T N sc X) {pr : List Nat} : ∀ (n : Nat) {e : Expr} {g : SG} {tv : List Nat}, cG N c pr sc n e = some (g, tv) → PG X e (tG X pr tv g) := by
  intro n
  induction n with
  | zero =>
    intro e g tv h
    unfold cG at h
    split at h
    · split at h
      · rename_i hk
        rw [Bool.or_eq_true, decide_eq_true_eq, decide_eq_true_eq] at hk
        obtain ⟨i, h1, h⟩ := bindS h
        cases h
        exact zg_name (C.name h1 hk)
      · cases h
    · rename_i heq; cases heq
    · split at h
      · rename_i hs
        obtain ⟨i, h1, h⟩ := bindS h
        obtain ⟨f, h2, h⟩ := bindS h
        cases h
        exact zg_ix (Ctx.hu0 C) (C.var h1) (S.e C h2) (asg_ok hs)
      · cases h
    · cases h
  | succ n ih =>
    intro e g tv h
    unfold cG at h
    split at h
    · split at h
      · rename_i hk
        rw [Bool.or_eq_true, decide_eq_true_eq, decide_eq_true_eq] at hk
        obtain ⟨i, h1, h⟩ := bindS h
        cases h
        exact zg_name (C.name h1 hk)
      · cases h
    · rename_i heq
      cases heq
      obtain ⟨⟨g2, t2⟩, h1, h⟩ := bindS h
      cases h
      obtain ⟨i1, i2⟩ := cGs_ok (fun h => ih h) h1
      obtain ⟨q1, q2⟩ := eachG (env := X.env) i2
      exact zg_tup C.calm i1 q2 q1
    · split at h
      · rename_i hs
        obtain ⟨i, h1, h⟩ := bindS h
        obtain ⟨f, h2, h⟩ := bindS h
        cases h
        exact zg_ix (Ctx.hu0 C) (C.var h1) (S.e C h2) (asg_ok hs)
      · cases h
    · cases h
end
end Z
namespace Z
open PySem PySem.Spec L2
open PyProof.Rows hiding St
section
variable {k : Nat} {T : Tab} {N : List Str} {sc : Scope} {X : Cx} {c : Co}
theorem Ctx.bn (C : Ctx k T N sc X) {x : Str} (h : x ∈ bltNames := by decide) : X.mg x = none := C.tab.blt x h
theorem s1 {a : Expr} {env : Env} (h : [a].all notStar = true) : starEach [a] env = [(false, eval a env)] := star_ok (by simpa using h)
theorem cI_ok (S : CoOk k T N c) (C : Ctx k T N sc X) {tg it : Expr} {f : MIt} (h : cI c sc tg it = some f) : PI X tg it (tIt X f) := by
  unfold cI at h
  split at h
  · rename_i x p es pos
    split at h
    · rename_i hc
      rw [Bool.and_eq_true, decide_eq_true_eq] at hc
      obtain ⟨hg, e⟩ := hc
      subst e
      obtain ⟨g1, g2, g3⟩ := C.gl hg
      obtain ⟨fs, h1, h⟩ := bindS h
      obtain ⟨i1, i2⟩ := cTs_ok S C h1
      split at h
      · cases h; exact zi_range1 g1 C.bn i1 (s1 i2)
      · cases h
        simp only [List.all_cons, Bool.and_eq_true] at i2
        obtain ⟨a1, a2, _⟩ := i2
        exact zi_range2 g1 C.bn i1 (by rw [star_ok a1, star_ok a2]; rfl) (by rw [star_ok a2]; rfl)
      · cases h
        have i3 := i2
        simp only [List.all_cons, Bool.and_eq_true] at i2
        obtain ⟨a1, a2, a3, _⟩ := i2
        exact zi_range3 g1 C.bn i1 (star_ok a1) (plain_ok (by simp [a2, a3]))
      · cases h
    · split at h
      · rename_i hc
        rw [Bool.and_eq_true, decide_eq_true_eq] at hc
        obtain ⟨hg, e⟩ := hc
        subst e
        obtain ⟨g1, g2, g3⟩ := C.gl hg
        split at h
        · rename_i ht
          obtain ⟨fs, h1, h⟩ := bindS h
          obtain ⟨i1, i2⟩ := cTs_ok S C h1
          split at h
          · cases h
            cases tg <;> first
              | exact zi_enum g1 C.bn i1 (s1 i2)
              | cases ht
          · cases h
        · cases h
      · split at h
        · rename_i hc
          rw [Bool.and_eq_true, decide_eq_true_eq] at hc
          obtain ⟨hg, e⟩ := hc
          subst e
          obtain ⟨g1, g2, g3⟩ := C.gl hg
          split at h
          · rename_i ht
            obtain ⟨fs, h1, h⟩ := bindS h
            obtain ⟨i1, i2⟩ := cTs_ok S C h1
            split at h
            · cases h
              simp only [List.all_cons, Bool.and_eq_true] at i2
              obtain ⟨a1, a2, _⟩ := i2
              cases tg <;> first
                | exact zi_zip g1 C.bn i1 (star_ok a1) (plain_ok (by simp [a2]))
                | cases ht
            · cases h
          · cases h
        · obtain ⟨g, h1, h⟩ := bindS h
          cases h
          exact zi_seq (S.e C h1)
  · cases h
  · obtain ⟨g, h1, h⟩ := bindS h
    cases h
    exact zi_seq (S.e C h1)
theorem cTests_ok (S : CoOk k T N c) (C : Ctx k T N sc X) {ts : List Expr} {f : MB} (h : cTests c sc ts = some f) : PTs X ts (tT X f) := by
  unfold cTests at h
  split at h
  · cases h; exact zts_nil
  · exact pts_one (S.b C h)
  · cases h
theorem blkC_fit (C : Ctx k T N sc X) {scope : Scope} {own : List (Str × Nat)} (h : blkC N sc scope own = true) : BlkOk X.N X.env.scope scope own := by
  have b := blkOk_by h
  rw [C.hN]
  refine ⟨b.kind, b.uniq, b.ix, fun y hy e => ?_, b.own⟩
  rcases b.free y hy e with q | q
  · exact .inl ((C.fit _ _ q).1 (by decide))
  · exact ((C.fit _ _ q).2 rfl).symm
theorem cLc_get {elt : Expr} {gs : List Comprehension} {scope : Scope} {f : ME} (h : cLc N c sc elt gs scope = some f) :
    ∃ tg iter ifs own fi g tv t fe, gs = [⟨tg, iter, ifs, 0⟩] ∧ f = eLc (own.map (·.2)) fi g t fe ∧ blkC N sc scope own = true ∧ notSet iter = true ∧ cI c sc tg iter = some fi ∧ cG N c [] scope 4 tg = some (g, tv) ∧ (∀ i ∈ tv, i ∈ own.map (·.2)) ∧ cTests c scope ifs = some t ∧ c.e scope elt = some fe := by
  unfold cLc at h
  split at h
  · rename_i tg iter ifs
    obtain ⟨own, h1, h⟩ := bindS h
    split at h
    · rename_i hc
      rw [Bool.and_eq_true] at hc
      obtain ⟨fi, h2, h⟩ := bindS h
      obtain ⟨⟨g, tv⟩, h3, h⟩ := bindS h
      split at h
      · rename_i ht
        obtain ⟨t, h4, h⟩ := bindS h
        obtain ⟨fe, h5, h⟩ := bindS h
        cases h
        refine ⟨tg, iter, ifs, own, fi, g, tv, t, fe, rfl, rfl, hc.1, hc.2, h2, h3, fun i hi => ?_, h4, h5⟩
        have := List.all_eq_true.mp ht i hi
        simpa using this
      · cases h
    · cases h
  · cases h
theorem cLc_ok (S : CoOk k T N c) (C : Ctx k T N sc X) {elt : Expr} {gs : List Comprehension} {scope : Scope} {pos : Pos} {f : ME} (h : cLc N c sc elt gs scope = some f) : PE X (.ListComp elt gs scope pos) (tE X f) := by
  obtain ⟨tg, iter, ifs, own, fi, g, tv, t, fe, rfl, rfl, h1, h2, h3, h4, h5, h6, h7⟩ := cLc_get h
  exact zpe_lc C.calm (by rw [C.hN]; exact C.nd) (cI_ok S C h3) (blkC_fit C h1) (fun s H A cl fp => cG_ok S (C.blk s H A cl fp) 4 h4) (fun s H A cl fp => cTests_ok S (C.blk s H A cl fp) h6) (fun s H A cl fp => S.e (C.blk s H A cl fp) h7) (fold_ok h2) h5
theorem cLc2_get {elt : Expr} {gs : List Comprehension} {scope : Scope} {f : ME} (h : cLc2 N c sc elt gs scope = some f) :
    ∃ tg iter ifs tg1 iter1 ifs1 own fi g tv fi1 g1 vs1 t t1 fe, gs = [⟨tg, iter, ifs, 0⟩, ⟨tg1, iter1, ifs1, 0⟩] ∧ f = eLc2 (own.map (·.2)) vs1 fi g t fi1 g1 t1 fe ∧ blkC N sc scope own = true ∧ notSet iter = true ∧ notSet iter1 = true ∧ cI c sc tg iter = some fi ∧ cG N c [] scope 4 tg = some (g, tv) ∧
      cI c scope tg1 iter1 = some fi1 ∧ cG N c [] scope 4 tg1 = some (g1, vs1) ∧ (∀ i ∈ tv, i ∈ own.map (·.2)) ∧ (∀ i ∈ vs1, i ∈ own.map (·.2)) ∧ cTests c scope ifs = some t ∧ cTests c scope ifs1 = some t1 ∧ c.e scope elt = some fe := by
  unfold cLc2 at h
  split at h
  · rename_i tg iter ifs tg1 iter1 ifs1
    obtain ⟨own, h1, h⟩ := bindS h
    split at h
    · rename_i hc
      simp only [Bool.and_eq_true] at hc
      obtain ⟨fi, h2, h⟩ := bindS h
      obtain ⟨⟨g, tv⟩, h3, h⟩ := bindS h
      obtain ⟨fi1, h4, h⟩ := bindS h
      obtain ⟨⟨g1, vs1⟩, h5, h⟩ := bindS h
      split at h
      · rename_i ht
        rw [Bool.and_eq_true] at ht
        obtain ⟨t, h6, h⟩ := bindS h
        obtain ⟨t1, h7, h⟩ := bindS h
        obtain ⟨fe, h8, h⟩ := bindS h
        cases h
        refine ⟨tg, iter, ifs, tg1, iter1, ifs1, own, fi, g, tv, fi1, g1, vs1, t, t1, fe, rfl, rfl, hc.1.1, hc.1.2, hc.2, h2, h3, h4, h5, fun i hi => ?_, fun i hi => ?_, h6, h7, h8⟩
        · have := List.all_eq_true.mp ht.1 i hi
          simpa using this
        · have := List.all_eq_true.mp ht.2 i hi
          simpa using this
      · cases h
    · cases h
  · cases h
theorem cLc2_ok (S : CoOk k T N c) (C : Ctx k T N sc X) {elt : Expr} {gs : List Comprehension} {scope : Scope} {pos : Pos} {f : ME} (h : cLc2 N c sc elt gs scope = some f) : PE X (.ListComp elt gs scope pos) (tE X f) := by
  obtain ⟨tg, iter, ifs, tg1, iter1, ifs1, own, fi, g, tv, fi1, g1, vs1, t, t1, fe, rfl, rfl, b1, b2, b3, b4, b5, b6, b7, b8, b9, b10, b11, b12⟩ := cLc2_get h
  exact zpe_lc2 C.calm (by rw [C.hN]; exact C.nd) (cI_ok S C b4) (blkC_fit C b1) b9 (fun s H A cl fp => cG_ok S (C.blk s H A cl fp) 4 b5) (fun s H A cl fp => cTests_ok S (C.blk s H A cl fp) b10) (fun s H A cl fp => cI_ok S (C.blk s H A cl fp) b6) (fun s H A cl fp => cG_ok S (C.blk s H A cl fp) 4 b7) (fun s H A cl fp => cTests_ok S (C.blk s H A cl fp) b11)
    (fun s H A cl fp => S.e (C.blk s H A cl fp) b12) (fold_ok b2) (fun env => fold_ok b3) b8
theorem cLcA_ok (S : CoOk k T N c) (C : Ctx k T N sc X) {elt : Expr} {gs : List Comprehension} {scope : Scope} {pos : Pos} {f : ME} (h : cLcA N c sc elt gs scope = some f) : PE X (.ListComp elt gs scope pos) (tE X f) := by
  unfold cLcA at h
  split at h
  · exact cLc2_ok S C h
  · exact cLc_ok S C h
theorem cKw_ok (S : CoOk k T N c) (C : Ctx k T N sc X) {pos : Pos} : ∀ {kws : List Keyword} {g : MOs × List Str}, cKw c sc kws = some g →
    PK X kws (tOps X g.1) ∧ (backToKw pos (keywordEach kws X.env)).all (·.1.isSome) = true ∧ (backToKw pos (keywordEach kws X.env)).filterMap (·.1) = g.2 ∧ (backToKw pos (keywordEach kws X.env)).any (·.1.isNone) = false
  | [], g, h => by cases h; exact ⟨zpk_nil, rfl, rfl, rfl⟩
  | ⟨some n, e, p⟩ :: kws, g, h => by
    obtain ⟨f, h1, h⟩ := bindS h
    obtain ⟨g2, h2, h⟩ := bindS h
    cases h
    obtain ⟨i1, i2, i3, i4⟩ := cKw_ok S C (pos := pos) h2
    refine ⟨zpk_cons (zpo_tv (S.e C h1)) i1, ?_, ?_, ?_⟩
    · show (true && _) = true
      rw [Bool.true_and]; exact i2
    · show n :: _ = n :: g2.2
      rw [← i3]; rfl
    · show (false || _) = false
      rw [Bool.false_or]; exact i4
  | ⟨none, e, p⟩ :: kws, g, h => by cases h
theorem cCallK_ok (S : CoOk k T N c) (C : Ctx k T N sc X) {x : Str} {es : List Expr} {kws : List Keyword} {p pos : Pos} {f : ME} (h : cCallK T c sc x es kws = some f) : PE X (.Call (.Name x p) es kws pos) (tE X f) := by
  unfold cCallK at h
  split at h
  · rename_i hg
    obtain ⟨g1, g2, g3⟩ := C.gl hg
    obtain ⟨F, h1, h⟩ := bindS h
    obtain ⟨fs, h2, h⟩ := bindS h
    obtain ⟨g, h3, h⟩ := bindS h
    obtain ⟨pm, h4, h⟩ := bindS h
    cases h
    obtain ⟨f0, fd, ps, m1, m2, m3, m4, m5⟩ := C.tab.fn x F h1
    obtain ⟨i1, i2⟩ := cTs_ok S C h2
    obtain ⟨k1, k2, k3, k4⟩ := cKw_ok S C (pos := pos) h3
    cases es with
    | nil =>
      cases h2
      exact zpe_callK0 m4 C.room g1 m1 m2 (m5 _ _ _ h4) k1 k2 k3 g2 k4
    | cons e es =>
      exact zpe_callK m4 C.room g1 m1 m2 (m5 _ _ _ h4) i1 k1 k2 k3 g2 (star_ok (by simp at i2; exact i2.1)) (plain_ok i2) k4
  · cases h
theorem cBlt_ok (S : CoOk k T N c) (C : Ctx k T N sc X) {x : Str} {es : List Expr} {p pos : Pos} {f : ME} (hg : isGl sc x = true) (h : cBlt N c sc x es = some f) : PE X (.Call (.Name x p) es [] pos) (tE X f) := by
  obtain ⟨g1, g2, g3⟩ := C.gl hg
  unfold cBlt at h
  split at h
  · rename_i e
    rw [decide_eq_true_eq] at e
    subst e
    split at h
    · rename_i a t p1
      split at h
      · rename_i hs
        obtain ⟨fo, h1, h⟩ := bindS h
        obtain ⟨Ts, h2, h⟩ := bindS h
        cases h
        unfold cTys at h2
        split at h2
        · rename_i hg2
          obtain ⟨T1, h3, h2⟩ := bindS h2
          obtain ⟨r, h4, h2⟩ := bindS h2
          cases h4
          cases h2
          obtain ⟨t1, t2⟩ := tyB_ok h3
          obtain ⟨q1, q2, q3⟩ := C.gl hg2
          have hm : X.mg t = none := by
            refine C.tab.blt t ?_
            unfold tyB at h3
            repeat' split at h3
            all_goals first
              | (rename_i e; rw [e]; decide)
              | cases h3
          exact zpe_isi1 t2 g1 C.bn (cO_ok S C h1) (pe_bltn q1 hm t1 (show RelV (.ty T1) (.type T1) from rfl) q3 q2) (star_ok hs) (star_ok rfl) (plain_ok rfl)
        · cases h2
      · cases h
    · rename_i a ts p1 p2
      split at h
      · rename_i hc
        rw [Bool.and_eq_true] at hc
        obtain ⟨fo, h1, h⟩ := bindS h
        obtain ⟨Ts, h2, h⟩ := bindS h
        cases h
        obtain ⟨i1, i2, i3, i4⟩ := cTys_ok C h2
        exact zpe_isiT i3 (by rw [i4]; exact hc.2) g1 C.bn (cO_ok S C h1) i1 (star_ok hc.1) (star_ok rfl) (plain_ok rfl)
      · cases h
    · cases h
  · split at h
    · cases h
    · rename_i hne
      obtain ⟨g, h1, h⟩ := bindS h
      obtain ⟨fs, h2, h⟩ := bindS h
      cases h
      obtain ⟨i1, i2⟩ := cOs_ok S C h2
      have hm : X.mg x = none := by
        refine C.tab.blt x ?_
        unfold bltB at h1
        split at h1
        · rename_i e; rw [e]; decide
        · unfold bltB0 at h1
          repeat' split at h1
          all_goals first
            | (rename_i e; rw [e]; decide)
            | cases h1
      cases es with
      | nil => exact absurd rfl hne
      | cons e es =>
        have i3 := i2
        simp only [List.all_cons, Bool.and_eq_true] at i2
        rcases bltB_ok (Ctx.hu0 C) C.calm h1 with ⟨id, b1, b2⟩ | ⟨id, b1, b2⟩
        · exact ⟨fun pins s σ H Q I hq => (pe_callB b2 g1 hm b1 i1 g3 g2 (star_ok i2.1) (plain_ok i2.2)).run pins s σ H Q I (tb_read hq)⟩
        · exact ⟨fun pins s σ H Q I hq => (pe_callTy b2 g1 hm b1 i1 g3 g2 (star_ok i2.1) (plain_ok i2.2)).run pins s σ H Q I (tb_read hq)⟩
theorem cCall_ok (S : CoOk k T N c) (C : Ctx k T N sc X) {x : Str} {es : List Expr} {p pos : Pos} {f : ME} (h : cCall T N c sc x es = some f) : PE X (.Call (.Name x p) es [] pos) (tE X f) := by
  unfold cCall at h
  split at h
  · rename_i hg
    obtain ⟨g1, g2, g3⟩ := C.gl hg
    split at h
    · rename_i F h1
      obtain ⟨fs, h2, h⟩ := bindS h
      cases h
      obtain ⟨f0, fd, ps, m1, m2, m3, m4, m5⟩ := C.tab.fn x F h1
      obtain ⟨i1, i2, i3⟩ := cAs_ok S C h2
      cases es with
      | nil => rw [i3 rfl]; exact zpe_call0 m4 C.room g1 m1 m2 m3 g2
      | cons e es =>
        simp only [List.all_cons, Bool.and_eq_true] at i2
        exact zpe_call m4 C.room g1 m1 m2 m3 i1 g2 (star_ok i2.1) (plain_ok i2.2)
    · split at h
      · rename_i hl
        rw [Bool.or_eq_true, decide_eq_true_eq, decide_eq_true_eq] at hl
        have hT : x = (if decide (x = ("list" : Str)) then ("list" : Str) else "tuple") := by
          rcases hl with e | e <;> (subst e; decide)
        have hm : X.mg x = none := by
          rcases hl with e | e <;> (subst e; exact C.bn)
        split at h
        · rename_i as hr
          unfold rngOf at hr
          split at hr
          · rename_i y p1 es1 pos1
            split at hr
            · rename_i hy
              cases hr
              rw [Bool.and_eq_true, decide_eq_true_eq] at hy
              obtain ⟨e, hy⟩ := hy
              subst e
              obtain ⟨q1, q2, q3⟩ := C.gl hy
              unfold cRg at h
              split at h
              · split at h
                · rename_i hs
                  obtain ⟨f1, h1, h⟩ := bindS h
                  cases h
                  exact zpe_rg1 hT C.calm g1 hm q1 C.bn (S.e C h1) (star_ok hs)
                · cases h
              · split at h
                · rename_i hs
                  rw [Bool.and_eq_true] at hs
                  obtain ⟨f1, h1, h⟩ := bindS h
                  obtain ⟨f2, h2, h⟩ := bindS h
                  cases h
                  exact zpe_rg2 hT C.calm g1 hm q1 C.bn (S.e C h1) (S.e C h2) (star_ok hs.1) (star_ok hs.2) (plain_ok (by simp [hs.2]))
                · cases h
              · cases h
            · cases hr
          · cases hr
        · exact cBlt_ok S C hg h
      · exact cBlt_ok S C hg h
  · split at h
    · rename_i i hi
      split at h
      · cases h
      · rename_i hne
        obtain ⟨fs, h2, h⟩ := bindS h
        cases h
        obtain ⟨i1, i2⟩ := cTs_ok S C h2
        cases es with
        | nil => exact absurd rfl hne
        | cons e es =>
          have i3 := i2
          rw [List.all_cons, Bool.and_eq_true] at i3
          refine zpe_callV (k := k) (C.var hi) (fun nm F a h1 h3 => ?_) C.room i1 (star_ok i3.1) (plain_ok i3.2)
          obtain ⟨f0, fd, ps, m1, m2, m3, m4, m5⟩ := C.tab.fn nm F h1
          have e := C.tab.ns nm a h3
          rw [m1] at e
          cases e
          exact ⟨fd, ps, m4, m2, m3⟩
    · cases h
theorem cMet2_ok (S : CoOk k T N c) (C : Ctx k T N sc X) {o : Expr} {m : Str} {es : List Expr} {apos pos : Pos} {f : ME} (hl : (apos.endLine == pos.line) = true) (h : cMet2 N c sc o m es = some f) : PE X (.Call (.Attribute o m apos) es [] pos) (tE X f) := by
  unfold cMet2 at h
  split at h
  · rename_i ho
    have hb : attributeBase o m X.env (eval o X.env) = eval o X.env := by
      cases o <;> first
        | rfl
        | cases ho
    obtain ⟨g, h1, h⟩ := bindS h
    obtain ⟨fo, h2, h⟩ := bindS h
    split at h
    · cases h
      exact zpe_mt0 (methB_ok (Ctx.hu0 C) h1) (cO_ok S C h2) hb hl
    · split at h
      · rename_i hs
        obtain ⟨fs, h3, h⟩ := bindS h
        cases h
        exact zpe_mt (methB_ok (Ctx.hu0 C) h1) (cO_ok S C h2) (cOs_ok S C h3).1 hb (by rw [star_ok hs]; rfl) hl (star_ok hs) rfl
      · cases h
    · cases h
  · cases h
theorem cMeth_ok (S : CoOk k T N c) (C : Ctx k T N sc X) {o : Expr} {m : Str} {es : List Expr} {apos pos : Pos} {f : ME} (h : cMeth N c sc o m es apos pos = some f) : PE X (.Call (.Attribute o m apos) es [] pos) (tE X f) := by
  unfold cMeth at h
  split at h
  · rename_i hl
    split at h
    · rename_i i hi
      have hv := isNm_var C hi
      have hb : ∀ m : Str, attributeBase o m X.env (eval o X.env) = eval o X.env := by
        obtain ⟨x, h1, h2⟩ := bindS hi
        intro m
        cases o <;> first
          | rfl
          | cases h1
      split at h
      · rename_i e
        rw [decide_eq_true_eq] at e
        subst e
        split at h
        · split at h
          · rename_i hs
            obtain ⟨g, h1, h⟩ := bindS h
            cases h
            exact zpe_app hv (S.e C h1) (hb _) (by rw [star_ok hs]; rfl) hl (star_ok hs) rfl
          · cases h
        · cases h
      · split at h
        · rename_i e
          rw [decide_eq_true_eq] at e
          subst e
          split at h
          · cases h
            exact zpe_pop hv (hb _) hl
          · split at h
            · rename_i hs
              obtain ⟨g, h1, h⟩ := bindS h
              cases h
              exact zpe_popAt hv (S.e C h1) (hb _) (by rw [star_ok hs]; rfl) hl (star_ok hs) rfl
            · cases h
          · cases h
        · split at h
          · rename_i e
            rw [decide_eq_true_eq] at e
            subst e
            split at h
            · split at h
              · rename_i hs
                obtain ⟨g, h1, h⟩ := bindS h
                cases h
                exact zpe_get1 (Ctx.hu0 C) hv (S.e C h1) ⟨hb _, by rw [star_ok hs]; rfl, hl, by rw [star_ok hs]; rfl⟩
              · cases h
            · split at h
              · rename_i hs
                rw [Bool.and_eq_true] at hs
                obtain ⟨g, h1, h⟩ := bindS h
                obtain ⟨g2, h2, h⟩ := bindS h
                cases h
                exact zpe_get2 (Ctx.hu0 C) hv (S.e C h1) (S.e C h2) ⟨hb _, by rw [star_ok hs.1, star_ok hs.2]; rfl, hl, by rw [star_ok hs.1, star_ok hs.2]; rfl⟩
              · cases h
            · cases h
          · exact cMet2_ok S C hl h
    · exact cMet2_ok S C hl h
  · cases h
end
end Z
namespace Z
open PySem PySem.Spec L2
open PyProof.Rows hiding St
section
variable {k : Nat} {T : Tab} {N : List Str} {sc : Scope} {X : Cx} {c : Co}
theorem Ctx.hu (C : Ctx k T N sc X) : X.A.units + 66 < cLine := by have := C.room.un; omega
theorem last_ok {op op' : CmpOp} {a b : Expr} (h : notSet b = true) : lastMarks [op, op'] [a, b] = false := by
  show behindInMarks op' b = false
  exact set_ok h
theorem cE_ok (S : CoOk k T N c) (C : Ctx k T N sc X) {e : Expr} {f : ME} (h : cE T N c sc e = some f) : PE X e (tE X f) := by
  unfold cE at h
  split at h
  · obtain ⟨d, h1, h⟩ := bindS h
    cases h
    exact cC_ok h1
  · split at h
    · rename_i i hi
      cases h
      exact zpe_var (C.var hi)
    · split at h
      · rename_i hg
        obtain ⟨g1, g2, g3⟩ := C.gl hg
        obtain ⟨d, h1, h⟩ := bindS h
        cases h
        obtain ⟨v, u, m1, m2, m3⟩ := C.tab.con _ d h1
        exact zpe_const (pe_glob g1 m1 m2 g2) m3
      · cases h
  · obtain ⟨g, h1, h⟩ := bindS h
    obtain ⟨fa, h2, h⟩ := bindS h
    obtain ⟨fb, h3, h⟩ := bindS h
    cases h
    exact zpe_bin (opB_ok h1) (cO_ok S C h2) (cO_ok S C h3)
  · obtain ⟨f1, h1, h⟩ := bindS h
    cases h
    exact zpe_not (S.e C h1)
  · obtain ⟨f1, h1, h⟩ := bindS h
    cases h
    exact zpe_un ud_neg (cO_ok S C h1)
  · exact pe_one (S.e C h)
  · obtain ⟨f1, h1, h⟩ := bindS h
    obtain ⟨f2, h2, h⟩ := bindS h
    cases h
    exact zpe_and (S.e C h1) (S.e C h2)
  · obtain ⟨f1, h1, h⟩ := bindS h
    obtain ⟨f2, h2, h⟩ := bindS h
    cases h
    exact zpe_or (S.e C h1) (S.e C h2)
  · obtain ⟨ft, h1, h⟩ := bindS h
    obtain ⟨fa, h2, h⟩ := bindS h
    obtain ⟨fb, h3, h⟩ := bindS h
    cases h
    exact zpe_if (S.b C h1) (S.e C h2) (S.e C h3)
  · split at h
    · rename_i hs
      obtain ⟨g, h1, h⟩ := bindS h
      obtain ⟨fa, h2, h⟩ := bindS h
      obtain ⟨fb, h3, h⟩ := bindS h
      cases h
      exact zpe_cmp (cmpB_ok C.hu h1) (cO_ok S C h2) (cO_ok S C h3) (set_ok hs)
    · cases h
  · split at h
    · rename_i hs
      obtain ⟨g, h1, h⟩ := bindS h
      obtain ⟨g', h2, h⟩ := bindS h
      obtain ⟨fa, h3, h⟩ := bindS h
      obtain ⟨fb, h4, h⟩ := bindS h
      obtain ⟨fd, h5, h⟩ := bindS h
      cases h
      exact zpe_chain (cmpB_ok C.hu h1) (cmpB_ok C.hu h2) (cO_ok S C h3) (cO_ok S C h4) (cO_ok S C h5) (last_ok hs)
    · cases h
  · obtain ⟨fa, h1, h⟩ := bindS h
    obtain ⟨fl, h2, h⟩ := bindS h
    obtain ⟨fh, h3, h⟩ := bindS h
    cases h
    exact zpe_slice (cO_ok S C h1) (cPart_ok S C h2) (cPart_ok S C h3)
  · obtain ⟨fa, h1, h⟩ := bindS h
    cases h
    exact zpe_rev (cO_ok S C h1)
  · obtain ⟨kvs, h1, h⟩ := bindS h
    split at h
    · rename_i hl
      cases h
      exact zpe_dic h1 (of_decide_eq_true hl)
    · cases h
  · split at h
    · rename_i hs
      obtain ⟨fa, h1, h⟩ := bindS h
      obtain ⟨fb, h2, h⟩ := bindS h
      cases h
      exact zpe_ix C.hu (cO_ok S C h1) (cO_ok S C h2) (slice_ok hs)
    · cases h
  · obtain ⟨fs, h1, h⟩ := bindS h
    cases h
    exact zpe_tup (cTs_ok S C h1).1
  · obtain ⟨fs, h1, h⟩ := bindS h
    cases h
    exact zpe_lst (cTs_ok S C h1).1
  · exact cLcA_ok S C h
  · exact cCall_ok S C h
  · exact cCallK_ok S C h
  · exact cMeth_ok S C h
  · cases h
theorem cB_ok (S : CoOk k T N c) (C : Ctx k T N sc X) {e : Expr} {f : MB} (h : cB N c sc e = some f) : PT X e (tT X f) ∧ ∀ op es pos, e = .BoolOp op es pos → PW X e (tT X f) := by
  unfold cB at h
  split at h
  · obtain ⟨f1, h1, h⟩ := bindS h
    cases h
    exact ⟨zpt_not (S.b C h1), fun _ _ _ e => by cases e⟩
  · rename_i op a pos
    have q : PW X (.BoolOp op [a] pos) (tT X f) := by
      cases op with
      | And => exact pw_and1 (S.b C h)
      | Or => exact pw_or1 (S.b C h)
    exact ⟨q.pt, fun _ _ _ _ => q⟩
  · obtain ⟨f1, h1, h⟩ := bindS h
    obtain ⟨f2, h2, h⟩ := bindS h
    cases h
    have q := zpw_and (S.b C h1) (S.w C h2)
    exact ⟨q.pt, fun _ _ _ _ => q⟩
  · obtain ⟨f1, h1, h⟩ := bindS h
    obtain ⟨f2, h2, h⟩ := bindS h
    cases h
    have q := zpw_or (S.b C h1) (S.w C h2)
    exact ⟨q.pt, fun _ _ _ _ => q⟩
  · split at h
    · rename_i hs
      obtain ⟨g, h1, h⟩ := bindS h
      obtain ⟨fa, h2, h⟩ := bindS h
      obtain ⟨fb, h3, h⟩ := bindS h
      cases h
      exact ⟨zpt_cmp (cmpB_ok C.hu h1) (cO_ok S C h2) (cO_ok S C h3) (set_ok hs), fun _ _ _ e => by cases e⟩
    · cases h
  · split at h
    · rename_i hs
      obtain ⟨g, h1, h⟩ := bindS h
      obtain ⟨g', h2, h⟩ := bindS h
      obtain ⟨fa, h3, h⟩ := bindS h
      obtain ⟨fb, h4, h⟩ := bindS h
      obtain ⟨fd, h5, h⟩ := bindS h
      cases h
      exact ⟨zpt_chain (cmpB_ok C.hu h1) (cmpB_ok C.hu h2) (cO_ok S C h3) (cO_ok S C h4) (cO_ok S C h5) (last_ok hs), fun _ _ _ e => by cases e⟩
    · cases h
  · obtain ⟨ft, h1, h⟩ := bindS h
    obtain ⟨fa, h2, h⟩ := bindS h
    obtain ⟨fb, h3, h⟩ := bindS h
    cases h
    exact ⟨zpt_if (S.b C h1) (S.b C h2) (S.b C h3), fun _ _ _ e => by cases e⟩
  · split at h
    · rename_i hs
      obtain ⟨fa, h1, h⟩ := bindS h
      cases h
      exact ⟨zpt_tru (cO_ok S C h1) (test_ok hs), fun _ _ _ e => by subst e; cases hs⟩
    · cases h
theorem co_ok : ∀ n : Nat, CoOk k T N (co T N n)
  | 0 => ⟨fun _ h => (nomatch h), fun _ h => (nomatch h), fun _ h => (nomatch h)⟩
  | n + 1 => ⟨fun C h => cE_ok (co_ok n) C h, fun C h => (cB_ok (co_ok n) C h).1, fun C h => (cB_ok (co_ok n) C h).2 _ _ _ rfl⟩
end
end Z
namespace Z
open PySem PySem.Spec L2
open PyProof.Rows hiding St

/-! ## statements -/
def sBk : SS := fun ρ => some (.bk, ρ)
def sCt : SS := fun ρ => some (.ct, ρ)
/-- the names that are stored side by side -/
def swK (kd : Str → Option NameKind) (ts vs : List Expr) : Option (Option (List Str)) :=
  if (!(ts.length == 2 || ts.length == 3) || vs.length != ts.length || false) = true then some none
  else if (vs.any fun | .Starred .. => true | _ => false) = true then some none
  else
    if (((ts.filterMap fun
      | .Name id pos => if kd id == some .local && pos.line == (ts.head?.map (·.pos.line)).getD 0 then some id else none
      | _ => none).length != ts.length) || ((ts.filterMap fun
      | .Name id pos => if kd id == some .local && pos.line == (ts.head?.map (·.pos.line)).getD 0 then some id else none
      | _ => none).eraseDups.length != (ts.filterMap fun
      | .Name id pos => if kd id == some .local && pos.line == (ts.head?.map (·.pos.line)).getD 0 then some id else none
      | _ => none).length)) = true then some none
    else if (vs.all (foldedForSure 8)) = true then some none
    else if (vs.all (constantsAlone 8)) = true then none
    else some (some (ts.filterMap fun
      | .Name id pos => if kd id == some .local && pos.line == (ts.head?.map (·.pos.line)).getD 0 then some id else none
      | _ => none))
def swN (sc : Scope) (ts vs : List Expr) : Option (Option (List Str)) := swK (fun x => sc.names.lookup x) ts vs
theorem swN_ok {sc : Scope} {ts vs : List Expr} {r : Option (List Str)} {env : Env} {kt k2 : Nat} {pt pt2 : Pos} (h : swN sc ts vs = some r) (hs : env.scope = sc) (hk : env.blockKind = .function) :
    swappedStores [.Tuple ts kt pt] (.Tuple vs k2 pt2) env = pure r := by
  have h : swK env.kindOf ts vs = some r := by
    have e : env.kindOf = fun x => sc.names.lookup x := by rw [← hs]; rfl
    rw [e]; exact h
  have e : (env.blockKind != ScopeKind.function) = false := by rw [hk]; rfl
  unfold swappedStores
  simp only [e]
  unfold swK at h
  split at h
  · rename_i h1
    cases h
    rw [if_pos h1]
  · rename_i h1
    rw [if_neg h1]
    split at h
    · rename_i h2
      cases h
      exact if_pos h2
    · rename_i h2
      refine (if_neg h2).trans ?_
      split at h
      · rename_i h3
        cases h
        exact if_pos h3
      · rename_i h3
        refine (if_neg h3).trans ?_
        split at h
        · rename_i h4
          cases h
          exact if_pos h4
        · rename_i h4
          refine (if_neg h4).trans ?_
          split at h
          · cases h
          · rename_i h5
            cases h
            exact if_neg h5
/-- a name's store of a list made by a comprehension swaps -/
def swC (sc : Scope) (t : Str) (p : Pos) (e : Expr) : Bool := match e with
  | .ListComp _ _ s q => decide (sc.names.lookup t = some .local) && p.line == q.line && !(s.names.any fun (n, k) => n == t && (k == .local || k == .cell))
  | _ => false
theorem swC_ok {sc : Scope} {t : Str} {p pos q : Pos} {elt : Expr} {gs : List Comprehension} {s : Scope} {env : Env} (hs : env.scope = sc) (hk : env.blockKind = .function) :
    swapsWith (.ListComp elt gs s q) (some (.Name t p)) pos.line env = pure (swC sc t p (.ListComp elt gs s q)) := by
  subst hs
  have e : (ScopeKind.function == ScopeKind.function) = true := by decide
  have e2 : (env.kindOf t == some NameKind.local) = decide (env.scope.names.lookup t = some .local) := by
    unfold Env.kindOf
    by_cases h : env.scope.names.lookup t = some .local
    · rw [h]; rfl
    · rw [decide_eq_false h]
      cases q : (env.scope.names.lookup t == some NameKind.local) with
      | false => rfl
      | true => exact absurd (by simpa using q) h
  unfold swapsWith swC
  simp only [hk, e, e2, Bool.true_and]
  rfl
section
variable (T : Tab) (N : List Str) (c : Co) (pr : List Nat) (sc : Scope)
def cSs (f : Stmt → Option SS) : List Stmt → Option SS
  | [] => some sNil
  | s :: r => (f s).bind fun a => (cSs f r).bind fun b => some (sSeq a b)
def cRvs (sc : Scope) : List Expr → Option MAs
  | [] => some aNil
  | e :: es => if notStar e then (c.e sc e).bind fun f => (cRvs sc es).bind fun g => some (aRv f g) else none
def locN (x : Str) : Option Nat := if decide (sc.names.lookup x = some .local) then locIx N sc x else none
/-- four names, a list among the values -/
def isLs : Expr → Bool
  | .List _ _ => true
  | _ => false
def isOw : Expr → Bool
  | .List _ _ => true
  | .Dict _ _ _ => true
  | .ListComp _ _ _ _ => true
  | _ => false
def areNm : List Expr → Bool
  | [] => true
  | .Name _ _ :: r => areNm r
  | _ => false
def par4 (ts vs : List Expr) : Bool := (decide (ts.length = 4) && vs.any isLs) || (decide (ts.length < 4) && decide (1 < ts.length) && (decide (ts.length = vs.length) && (areNm ts && vs.any isOw)))
/-- a name's place: local or a cell -/
def locA (x : Str) : Option Nat := if decide (sc.names.lookup x = some .local) || decide (sc.names.lookup x = some .cell) then locIx N sc x else none
/-- a store -/
def cAsg : Expr → Expr → Option SS
  | .Name x p, .ListComp elt gs s q => if swC sc x p (.ListComp elt gs s q) || (decide (sc.names.lookup x = some .local) || decide (sc.names.lookup x = some .cell)) then (locIx N sc x).bind fun i => (if swC sc x p (.ListComp elt gs s q) then cLcA N c sc elt gs s else c.e sc (.ListComp elt gs s q)).bind fun f => some (sSet pr i f) else none
  | .Name x p, e => if notComp e && (decide (sc.names.lookup x = some .local) || decide (sc.names.lookup x = some .cell)) then (locIx N sc x).bind fun i => (c.e sc e).bind fun f => some (sSet pr i f) else none
  | .Tuple ts a p, .Tuple vs b q => (swN sc ts vs).bind fun r => match r with
    | none => if par4 ts vs then (match ts, vs with
      | [.Name x _, .Name y _, .Name z _, .Name w _], [e1, e2, e3, e4] => (locN N sc x).bind fun i => (locN N sc y).bind fun j => (locN N sc z).bind fun l => (locN N sc w).bind fun m => (cRvs c sc [e1, e2, e3, e4]).bind fun f => some (sPar pr [i, j, l, m] f)
      | [.Name x _, .Name y _], [e1, e2] => (locA N sc x).bind fun i => (locA N sc y).bind fun j => (cRvs c sc [e1, e2]).bind fun f => some (sPar pr [i, j] f)
      | [.Name x _, .Name y _, .Name z _], [e1, e2, e3] => (locA N sc x).bind fun i => (locA N sc y).bind fun j => (locA N sc z).bind fun l => (cRvs c sc [e1, e2, e3]).bind fun f => some (sPar pr [i, j, l] f)
      | _, _ => none) else (c.e sc (.Tuple vs b q)).bind fun f => (cG N c pr sc 4 (.Tuple ts a p)).bind fun g => some (sAsg f g.1)
    | some _ => match ts, vs with
      | [.Name x _, .Name y _], [e1, e2] => (locN N sc x).bind fun i => (locN N sc y).bind fun j => if decide (i ≠ j) then (cRvs c sc [e1, e2]).bind fun f => some (sPar pr [i, j] f) else none
      | [.Name x _, .Name y _, .Name z _], [e1, e2, e3] => (locN N sc x).bind fun i => (locN N sc y).bind fun j => (locN N sc z).bind fun l => if decide (i ≠ j) && decide (i ≠ l) && decide (j ≠ l) then (cRvs c sc [e1, e2, e3]).bind fun f => some (sPar pr [i, j, l] f) else none
      | _, _ => none
  | .Tuple ts a p, e => if notComp e then (c.e sc e).bind fun f => (cG N c pr sc 4 (.Tuple ts a p)).bind fun g => some (sAsg f g.1) else none
  | .Subscript o i p, e => (c.e sc e).bind fun f => (cG N c pr sc 4 (.Subscript o i p)).bind fun g => some (sAsg f g.1)
  | _, _ => none
def cS (fuel : Nat) : Nat → Stmt → Option SS
  | 0, _ => none
  | n + 1, st => match st with
    | .Expr e _ => if notComp e then (c.e sc e).bind fun f => some (sDrop f) else none
    | .Pass _ => some sNil
    | .Break _ => some sBk
    | .Continue _ => some sCt
    | .Raise _ _ _ => some sBad
    | .Return none _ => some sRetN
    | .Return (some e) _ => match (isNm e).bind (locIx N sc) with
      | some i => some (sRetV pr i)
      | none => (c.e sc e).bind fun f => some (sRet f)
    | .If t as bs _ => (c.b sc t).bind fun ft => (cSs (cS fuel n) as).bind fun fa => (cSs (cS fuel n) bs).bind fun fb => some (sIf ft fa fb)
    | .While t as [] _ => (c.b sc t).bind fun ft => (cSs (cS fuel n) as).bind fun fa => some (whileN ft fa fuel)
    | .For tg it as [] _ => if notSet it then (cI c sc tg it).bind fun fi => (cG N c pr sc 4 tg).bind fun g => (cSs (cS fuel n) as).bind fun fa => some (sFor fi g.1 fa) else none
    | .Assign [tg] e _ => cAsg N c pr sc tg e
    | _ => none
end
section
variable {k : Nat} {T : Tab} {N : List Str} {sc : Scope} {X : Cx} {c : Co} {pr : List Nat} {pos : Pos}
theorem zs_bk : PS X (.Break pos) (tS X pr sBk) := by
  refine ⟨fun pins s σ H Dd I hq => ps_break.run pins s σ H Dd I ?_⟩
  obtain ⟨c, E, ρ, out, ρ', hK, hp, hR, hf, q⟩ := hq
  cases hf
  exact q σ H ⟨Stp.rfl, hR⟩
theorem zs_ct : PS X (.Continue pos) (tS X pr sCt) := by
  refine ⟨fun pins s σ H Dd I hq => ps_continue.run pins s σ H Dd I ?_⟩
  obtain ⟨c, E, ρ, out, ρ', hK, hp, hR, hf, q⟩ := hq
  cases hf
  exact q σ H ⟨Stp.rfl, hR⟩
end
end Z
namespace Z
open PySem PySem.Spec L2
open PyProof.Rows hiding St
section
variable {k : Nat} {T : Tab} {N : List Str} {sc : Scope} {X : Cx} {c : Co} {pr : List Nat} {pos : Pos}
structure CtS (k : Nat) (T : Tab) (N : List Str) (sc : Scope) (X : Cx) : Prop extends Ctx k T N sc X where
  hsc : X.env.scope = sc
  hbk : X.env.blockKind = .function
theorem cSs_ok {F : Stmt → Option SS} (ih : ∀ {st : Stmt} {s : SS}, F st = some s → PS X st (tS X pr s)) : ∀ {sts : List Stmt} {s : SS}, cSs F sts = some s → PSs X sts (tS X pr s)
  | [], s, h => by cases h; exact zs_nil
  | st :: sts, s, h => by
    obtain ⟨a, h1, h⟩ := bindS h
    obtain ⟨b, h2, h⟩ := bindS h
    cases h
    exact zs_cons (ih h1) (cSs_ok ih h2)
theorem cRvs_ok (S : CoOk k T N c) (C : Ctx k T N sc X) : ∀ {es : List Expr} {f : MAs}, cRvs c sc es = some f → PA X es (tAs X f)
  | [], f, h => by cases h; exact za_nil
  | e :: es, f, h => by
    unfold cRvs at h
    split at h
    · rename_i hs
      obtain ⟨g, h1, h⟩ := bindS h
      obtain ⟨g2, h2, h⟩ := bindS h
      cases h
      exact za_rv (S.e C h1) (cRvs_ok S C h2) (star_ok hs)
    · cases h
theorem locN_ok (C : Ctx k T N sc X) {x : Str} {i : Nat} (h : locN N sc x = some i) : X.N[i]? = some x ∧ X.env.scope.names.lookup x = some .local := by
  unfold locN at h
  split at h
  · rename_i e
    rw [decide_eq_true_eq] at e
    exact ⟨by rw [C.hN]; exact locIx_ix h, (C.fit x _ e).1 (by decide)⟩
  · cases h
theorem Ctx.hnd (C : Ctx k T N sc X) : X.N.Nodup := by rw [C.hN]; exact C.nd
theorem swap_sub {e o i : Expr} {p : Pos} {l : Nat} {env : Env} : swapsWith e (some (.Subscript o i p)) l env = pure false := by
  cases e <;> rfl
theorem asgG {tg e : Expr} {f : ME} {g : SG} {tv : List Nat} (he : PE X e (tE X f)) (hg : PG X tg (tG X pr tv g)) (hn : notComp e = true) (hs : notStar tg = true) (hw : swappedStores [tg] e X.env = pure none) : PS X (.Assign [tg] e pos) (tS X pr (sAsg f g)) :=
  zs_asg he hg (swap_ok hn) hw (eachG_cons (es := []) hs)
theorem swK_names {ts vs : List Expr} {ns : List Str} (h : swN sc ts vs = some (some ns)) : ts.length ≤ 8 → ns.length = ts.length ∧ ns = ts.filterMap fun
      | .Name id pos => if sc.names.lookup id == some .local && pos.line == (ts.head?.map (·.pos.line)).getD 0 then some id else none
      | _ => none := by
  intro _
  unfold swN swK at h
  repeat' split at h
  all_goals first
    | (cases h; done)
    | (rename_i h3 _ _
       cases h
       rw [Bool.or_eq_true, not_or] at h3
       have q := h3.1
       rw [Bool.not_eq_true, bne_eq_false_iff_eq] at q
       exact ⟨q, rfl⟩)
theorem swN2 {x y : Str} {px py : Pos} {ns : List Str} {b : Str → Pos → Bool} (h : ns.length = [Expr.Name x px, Expr.Name y py].length) (e : ns = [Expr.Name x px, Expr.Name y py].filterMap fun
      | .Name id pos => if b id pos then some id else none
      | _ => none) : ns = [x, y] := by
  simp only [List.filterMap_cons, List.filterMap_nil] at e
  cases h1 : b x px <;> cases h2 : b y py <;> simp only [h1, h2, if_true, Bool.false_eq_true, if_false] at e <;> subst e <;> first
    | rfl
    | (simp at h)
theorem swN3 {x y z : Str} {px py pz : Pos} {ns : List Str} {b : Str → Pos → Bool} (h : ns.length = [Expr.Name x px, Expr.Name y py, Expr.Name z pz].length) (e : ns = [Expr.Name x px, Expr.Name y py, Expr.Name z pz].filterMap fun
      | .Name id pos => if b id pos then some id else none
      | _ => none) : ns = [x, y, z] := by
  simp only [List.filterMap_cons, List.filterMap_nil] at e
  cases h1 : b x px <;> cases h2 : b y py <;> cases h3 : b z pz <;> simp only [h1, h2, h3, if_true, Bool.false_eq_true, if_false] at e <;> subst e <;> first
    | rfl
    | (simp at h)
theorem locA_ok (C : CtS k T N sc X) {x : Str} {i : Nat} {p : Pos} (h : locA N sc x = some i) : PG X (.Name x p) (L2.gName i) := by
  unfold locA at h
  split at h
  · rename_i hk
    rw [Bool.or_eq_true, decide_eq_true_eq, decide_eq_true_eq] at hk
    exact C.toCtx.name h hk
  · cases h
theorem cAsg_ok (S : CoOk k T N c) (C : CtS k T N sc X) {tg e : Expr} {s : SS} (h : cAsg N c pr sc tg e = some s) : PS X (.Assign [tg] e pos) (tS X pr s) := by
  have nk : ∀ {x : Str} {i : Nat}, locIx N sc x = some i → (decide (sc.names.lookup x = some .local) || decide (sc.names.lookup x = some .cell)) = true → Loc X.env.scope x ∧ (X.fn x = true ∨ X.env.scope.names.lookup x = some .local) := fun {x i} hi hk => by
    rw [Bool.or_eq_true, decide_eq_true_eq, decide_eq_true_eq] at hk
    rcases hk with e | e
    · have q := (C.fit x _ e).1 (by decide)
      exact ⟨.inl q, .inr q⟩
    · exact ⟨.inr ((C.fit x _ e).1 (by decide)), .inl (C.fnc x e)⟩
  unfold cAsg at h
  split at h
  · rename_i x p elt gs s1 q
    split at h
    · rename_i hk
      obtain ⟨i, h1, h⟩ := bindS h
      obtain ⟨f, h2, h⟩ := bindS h
      cases h
      have hi : X.N[i]? = some x := by rw [C.hN]; exact locIx_ix h1
      have sw := swC_ok (sc := sc) (t := x) (p := p) (pos := pos) (q := q) (elt := elt) (gs := gs) (s := s1) C.hsc C.hbk
      cases hc : swC sc x p (.ListComp elt gs s1 q) with
      | true =>
        rw [hc] at sw
        rw [if_pos hc] at h2
        have lo : sc.names.lookup x = some .local := by
          have hc2 := hc
          unfold swC at hc2
          simp only [Bool.and_eq_true, decide_eq_true_eq] at hc2
          exact hc2.1.1
        unfold cLcA at h2
        split at h2
        · obtain ⟨tg, iter, ifs, tg1, iter1, ifs1, own, fi, g, tv, fi1, g1, vs1, t, t1, fe, eg, rfl, b1, b2, b3, b4, b5, b6, b7, b8, b9, b10, b11, b12⟩ := cLc2_get h2
          cases eg
          exact zs_setLc2 C.calm C.hnd hi ((C.fit x _ lo).1 (by decide)) sw (cI_ok S C.toCtx b4) (blkC_fit C.toCtx b1) b9 (fun s H A cl fp => cG_ok S (C.toCtx.blk s H A cl fp) 4 b5) (fun s H A cl fp => cTests_ok S (C.toCtx.blk s H A cl fp) b10) (fun s H A cl fp => cI_ok S (C.toCtx.blk s H A cl fp) b6)
            (fun s H A cl fp => cG_ok S (C.toCtx.blk s H A cl fp) 4 b7) (fun s H A cl fp => cTests_ok S (C.toCtx.blk s H A cl fp) b11) (fun s H A cl fp => S.e (C.toCtx.blk s H A cl fp) b12) (fold_ok b2) (fun env => fold_ok b3) b8
        · obtain ⟨tg, iter, ifs, own, fi, g, tv, t, fe, eg, rfl, g1, g2, g3, g4, g5, g6, g7⟩ := cLc_get h2
          cases eg
          exact zs_setLc C.calm C.hnd hi ((C.fit x _ lo).1 (by decide)) sw (cI_ok S C.toCtx g3) (blkC_fit C.toCtx g1) (fun s H A cl fp => cG_ok S (C.toCtx.blk s H A cl fp) 4 g4) (fun s H A cl fp => cTests_ok S (C.toCtx.blk s H A cl fp) g6) (fun s H A cl fp => S.e (C.toCtx.blk s H A cl fp) g7) (fold_ok g2) g5
      | false =>
        rw [hc] at sw
        rw [if_neg (by rw [hc]; decide)] at h2
        rw [hc, Bool.false_or] at hk
        obtain ⟨l1, l2⟩ := nk h1 hk
        exact zs_set' (ps_set C.hnd hi l1 (S.e C.toCtx h2) sw l2)
    · cases h
  · rename_i x p e hne
    split at h
    · rename_i hk
      rw [Bool.and_eq_true] at hk
      obtain ⟨i, h1, h⟩ := bindS h
      obtain ⟨f, h2, h⟩ := bindS h
      cases h
      obtain ⟨l1, l2⟩ := nk h1 hk.2
      exact zs_set' (ps_set C.hnd (by rw [C.hN]; exact locIx_ix h1) l1 (S.e C.toCtx h2) (swap_ok hk.1) l2)
    · cases h
  · rename_i ts a p vs b q
    obtain ⟨r, h1, h⟩ := bindS h
    have hw := swN_ok (kt := a) (k2 := b) (pt := p) (pt2 := q) h1 C.hsc C.hbk
    cases r with
    | none =>
     dsimp only at h
     split at h
     · split at h
       · rename_i x px y py z pz w pw e1 e2 e3 e4
         obtain ⟨i, g1, h⟩ := bindS h
         obtain ⟨j, g2, h⟩ := bindS h
         obtain ⟨l, g3, h⟩ := bindS h
         obtain ⟨m, g4, h⟩ := bindS h
         obtain ⟨f, g5, h⟩ := bindS h
         cases h
         obtain ⟨a1, a2⟩ := locN_ok C.toCtx g1
         obtain ⟨b1, b2⟩ := locN_ok C.toCtx g2
         obtain ⟨c1, c2⟩ := locN_ok C.toCtx g3
         obtain ⟨d1, d2⟩ := locN_ok C.toCtx g4
         exact zs_par4 C.calm C.hnd a1 b1 c1 d1 a2 b2 c2 d2 (cRvs_ok S C.toCtx g5) hw
       · rename_i x px y py e1 e2
         obtain ⟨i, g1, h⟩ := bindS h
         obtain ⟨j, g2, h⟩ := bindS h
         obtain ⟨f, g3, h⟩ := bindS h
         cases h
         exact zs_par2t C.calm (locA_ok C g1) (locA_ok C g2) (cRvs_ok S C.toCtx g3) hw
       · rename_i x px y py z pz e1 e2 e3
         obtain ⟨i, g1, h⟩ := bindS h
         obtain ⟨j, g2, h⟩ := bindS h
         obtain ⟨l, g3, h⟩ := bindS h
         obtain ⟨f, g4, h⟩ := bindS h
         cases h
         exact zs_par3t C.calm (locA_ok C g1) (locA_ok C g2) (locA_ok C g3) (cRvs_ok S C.toCtx g4) hw
       · cases h
     · obtain ⟨f, h2, h⟩ := bindS h
       obtain ⟨⟨g, tv⟩, h3, h⟩ := bindS h
       cases h
       exact asgG (S.e C.toCtx h2) (cG_ok S C.toCtx 4 h3) rfl rfl hw
    | some ns =>
      dsimp only at h
      split at h
      · rename_i x px y py e1 e2
        obtain ⟨i, g1, h⟩ := bindS h
        obtain ⟨j, g2, h⟩ := bindS h
        split at h
        · rename_i hd
          obtain ⟨f, g3, h⟩ := bindS h
          cases h
          obtain ⟨a1, a2⟩ := locN_ok C.toCtx g1
          obtain ⟨b1, b2⟩ := locN_ok C.toCtx g2
          refine zs_par C.calm C.hnd a1 b1 (of_decide_eq_true hd) a2 b2 (cRvs_ok S C.toCtx g3) ?_
          rw [hw]
          obtain ⟨e1, e2⟩ := swK_names h1 (by simp)
          rw [swN2 e1 e2]
        · cases h
      · rename_i x px y py z pz e1 e2 e3
        obtain ⟨i, g1, h⟩ := bindS h
        obtain ⟨j, g2, h⟩ := bindS h
        obtain ⟨l, g3, h⟩ := bindS h
        split at h
        · rename_i hd
          simp only [Bool.and_eq_true, decide_eq_true_eq] at hd
          obtain ⟨f, g4, h⟩ := bindS h
          cases h
          obtain ⟨a1, a2⟩ := locN_ok C.toCtx g1
          obtain ⟨b1, b2⟩ := locN_ok C.toCtx g2
          obtain ⟨c1, c2⟩ := locN_ok C.toCtx g3
          refine zs_par3 C.calm C.hnd a1 b1 c1 hd.1.1 hd.1.2 hd.2 a2 b2 c2 (cRvs_ok S C.toCtx g4) ?_
          rw [hw]
          obtain ⟨e1, e2⟩ := swK_names h1 (by simp)
          rw [swN3 e1 e2]
        · cases h
      · cases h
  · rename_i x1 x2 ts a p hne
    split at h
    · rename_i hn
      obtain ⟨f, h2, h⟩ := bindS h
      obtain ⟨⟨g, tv⟩, h3, h⟩ := bindS h
      cases h
      refine asgG (S.e C.toCtx h2) (cG_ok S C.toCtx 4 h3) hn rfl ?_
      cases e <;> first
        | rfl
        | exact (hne _ _ _ rfl).elim
    · cases h
  · rename_i o i p
    obtain ⟨f, h2, h⟩ := bindS h
    obtain ⟨⟨g, tv⟩, h3, h⟩ := bindS h
    cases h
    refine zs_asg (S.e C.toCtx h2) (cG_ok S C.toCtx 4 h3) (by cases e <;> rfl) ?_ (eachG_cons (es := []) rfl)
    cases e <;> rfl
  · cases h
theorem cS_ok (S : CoOk k T N c) (C : CtS k T N sc X) {fuel : Nat} : ∀ (n : Nat) {st : Stmt} {s : SS}, cS N c pr sc fuel n st = some s → PS X st (tS X pr s) := by
  intro n
  induction n with
  | zero => intro st s h; cases h
  | succ n ih =>
    intro st s h
    unfold cS at h
    split at h
    · split at h
      · rename_i hn
        obtain ⟨f, h1, h⟩ := bindS h
        cases h
        exact zs_drop (S.e C.toCtx h1) (swap_ok hn)
      · cases h
    · cases h; exact zs_pass
    · cases h; exact zs_bk
    · cases h; exact zs_ct
    · cases h; exact zs_bad
    · cases h; exact zs_retN
    · split at h
      · rename_i i hi
        cases h
        exact zs_retV (isNm_var C.toCtx hi)
      · obtain ⟨f, h1, h⟩ := bindS h
        cases h
        exact zs_ret (S.e C.toCtx h1)
    · obtain ⟨ft, h1, h⟩ := bindS h
      obtain ⟨fa, h2, h⟩ := bindS h
      obtain ⟨fb, h3, h⟩ := bindS h
      cases h
      exact zs_if (S.b C.toCtx h1) (cSs_ok (fun h => ih h) h2) (cSs_ok (fun h => ih h) h3)
    · obtain ⟨ft, h1, h⟩ := bindS h
      obtain ⟨fa, h2, h⟩ := bindS h
      cases h
      exact zs_while C.pass (S.b C.toCtx h1) (cSs_ok (fun h => ih h) h2)
    · split at h
      · rename_i hn
        obtain ⟨fi, h1, h⟩ := bindS h
        obtain ⟨⟨g, tv⟩, h2, h⟩ := bindS h
        obtain ⟨fa, h3, h⟩ := bindS h
        cases h
        exact zs_for C.pass C.calm (cI_ok S C.toCtx h1) (cG_ok S C.toCtx 4 h2) (cSs_ok (fun h => ih h) h3) (fold_ok hn)
      · cases h
    · exact cAsg_ok S C h
    · cases h
end
end Z
namespace Z
open PySem PySem.Spec L2
open PyProof.Rows hiding St

/-! ## tables, defs, the law's end -/
def Tab.nil : Tab := ⟨fun _ => none, fun _ => none, fun _ _ _ => none⟩
def Tab.add (T : Tab) (x : Str) (F : FnS) (kw : Nat → List Str → Option (List Nat)) : Tab := ⟨fun y => if y = x then some F else T.fn y, T.con, fun y n ks => if y = x then kw n ks else T.kw y n ks⟩
def Tab.put (T : Tab) (x : Str) (d : D) : Tab := ⟨T.fn, fun y => if y = x then some d else T.con y, T.kw⟩
def noKw : Nat → List Str → Option (List Nat) := fun _ _ => none
section
variable {k : Nat} {T : Tab} {P : Program} {w : World} {K : PySem.W.Frag} {mg : Str → Option Value} {base : Heap}
theorem TabOk.nil (h : ∀ x ∈ bltNames, mg x = none) (hn : ∀ x a, PySem.W.nsIn K mainGlobals x = some (some (.ref a)) → mg x = some (.ref a)) : TabOk k .nil P w K mg base := ⟨fun _ _ h => (nomatch h), fun _ _ h => (nomatch h), h, hn⟩
theorem TabOk.mono {j : Nat} (t : TabOk k T P w K mg base) (h : k ≤ j) : TabOk j T P w K mg base :=
  ⟨fun x F e => let ⟨f, fd, ps, h1, h2, h3, h4, h5⟩ := t.fn x F e; ⟨f, fd, ps, h1, h2, h3, h4.mono h, h5⟩, t.con, t.blt, t.ns⟩
theorem TabOk.add (t : TabOk k T P w K mg base) {x : Str} {F : FnS} {kw : Nat → List Str → Option (List Nat)} {f : Addr} {fd : FuncData} {ps : List Str} (hm : mg x = some (.ref f)) (hk : PySem.W.keepIn K (.ref f) = true) (hb : Binds K fd ps []) (hF : FnOk P w K mg base CX0 k f fd ps (spF K F))
    (hw : ∀ n ks pm, kw n ks = some pm → KwOk K fd ps ks n pm) : TabOk k (T.add x F kw) P w K mg base := by
  refine ⟨fun y G e => ?_, t.con, t.blt, t.ns⟩
  have e : (if y = x then some F else T.fn y) = some G := e
  split at e
  · rename_i q
    cases e
    subst q
    refine ⟨f, fd, ps, hm, hk, hb, hF, fun n ks pm q => hw n ks pm ?_⟩
    have q : (if y = y then kw n ks else T.kw y n ks) = some pm := q
    rw [if_pos rfl] at q
    exact q
  · rename_i q
    obtain ⟨f', fd', ps', h1, h2, h3, h4, h5⟩ := t.fn y G e
    refine ⟨f', fd', ps', h1, h2, h3, h4, fun n ks pm q' => h5 n ks pm ?_⟩
    have q' : (if y = x then kw n ks else T.kw y n ks) = some pm := q'
    rw [if_neg q] at q'
    exact q'
theorem TabOk.put (t : TabOk k T P w K mg base) {x : Str} {d : D} {v : V} {u : Value} (hm : mg x = some u) (r : RelV v u) (hr : ∀ H O, Rep K H O d v) : TabOk k (T.put x d) P w K mg base := by
  refine ⟨t.fn, fun y e h => ?_, t.blt, t.ns⟩
  have h : (if y = x then some d else T.con y) = some e := h
  split at h
  · rename_i q
    cases h
    subst q
    exact ⟨v, u, hm, r, hr⟩
  · exact t.con y e h
theorem TabOk.putF (t : TabOk k T P w K mg base) {x : Str} {a : Addr} (h : PySem.W.nsIn K mainGlobals x = some (some (.ref a))) : TabOk k (T.put x (fnD x)) P w K mg base :=
  t.put (v := .ref a) (t.ns x a h) rfl fun _ _ => .fnc h
theorem TabOk.putI (t : TabOk k T P w K mg base) {x : Str} {i : Int} (h : ∃ tk, mg x = some (.int i tk)) : TabOk k (T.put x (.int i)) P w K mg base := by
  obtain ⟨tk, h⟩ := h
  exact t.put (v := .int i) h ⟨tk, rfl⟩ fun _ _ => .int i
theorem TabOk.putS (t : TabOk k T P w K mg base) {x : Str} {z : Str} (h : ∃ tk, mg x = some (.str z tk)) (hz : PyData.strOk z = true) : TabOk k (T.put x (.str z)) P w K mg base := by
  obtain ⟨tk, h⟩ := h
  exact t.put (v := .str z) h ⟨tk, rfl⟩ fun _ _ => .str z hz
theorem def_ok {x qual : Str} {st : Stmt} {f : Addr} {fd : FuncData} {N ps : List Str} {mask : List Bool} {body : SS} {m n fuel : Nat} (t : TabOk k T P w K mg base) (F : Fun K x qual st f fd) (S : FnScope N ps (defScope st)) (hm : mask.length = ps.length) (hN : ps.length ≤ N.length)
    (hc : cSs (cS N (co T N m) (prOf 0 mask) (defScope st) fuel n) (defBody st) = some body) : FnOk P w K mg base CX0 (k + 1) f fd ps (spF K ⟨mask, runF N.length mask body⟩) := by
  refine zfn F S hm hN fun cdv A outer s H E hr => ?_
  have C : CtS k T N (defScope st) (cxOf CX0 P w K mg base N qual (defScope st) f cdv A outer s H E).nox := by
    refine ⟨⟨rfl, S.nd, rfl, hr, PassesOwn.never, fun x kd h => ⟨fun _ => h, fun e => .inl (e ▸ h)⟩, fun _ _ => rfl, t⟩, rfl, ?_⟩
    show (if (defScope st).kind.isAnnotationScope then ScopeKind.function else (defScope st).kind) = _
    rw [S.kind]; rfl
  exact cSs_ok (fun h => cS_ok (co_ok m) C n h) hc
/-- the law's argument -/
theorem sp_script {F : FnS} {H : Hp} {a : Addr} {ns : List Int} {Q : VK} {E : XK} (hm : F.mask = [false]) (hr : F.run [.list (ns.map .int)] = some (.v (.bool true), [])) (hS : SqL K H a (ns.map V.int)) (hQ : ∀ H', Q (.bl true) H') : spF K F [.ref a] H Q E := by
  have la : LA K H (fun _ => False) a (ns.map V.int) := by
    rcases hS with h | h
    · exact .inl ⟨h, fun y => y⟩
    · exact .inr (.inr h)
  have rs : Reps K H (fun _ => False) (ns.map .int) (ns.map V.int) := by
    clear hr hS la
    induction ns with
    | nil => exact .nil
    | cons n ns ih => exact .cons (.int n) ih
  refine ⟨fun _ => False, [.list (ns.map .int)], [], .v (.bool true), [], by rw [hm]; rfl, hr, (fun b h => h.elim), by rw [hm]; exact ⟨.lst la rs, True.intro⟩, List.nodup_nil, (fun a h => by cases h), fun z H' p => ?_⟩
  obtain ⟨_, _, p, _⟩ := p
  cases p
  exact hQ H'
theorem fun_of {x qual : Str} {st : Stmt} {f : Addr} {fd : FuncData} {kws : List (Str × V)} (F : FunD K x qual (defArgs st) (defBody st) (defScope st) [] kws f fd) : Fun K x qual st f fd := by
  obtain ⟨oc, od, dV, kV, doc, pm, an, cdv, ct, osl, e, l, c, hd, _⟩ := F.ex
  rcases hd with ⟨_, e2⟩ | ⟨e2, _⟩
  · subst e2
    exact ⟨⟨oc, od, kV, doc, pm, an, cdv, ct, osl, e, l, c⟩, F.kp⟩
  · exact absurd rfl e2
end
end Z
namespace Z
open PySem PySem.Spec L2
open PyProof.Rows hiding St
section
variable {k : Nat} {T : Tab} {P : Program} {w : World} {K : PySem.W.Frag} {mg : Str → Option Value} {base : Heap}
theorem KwOk.of {x qual : Str} {st : Stmt} {f : Addr} {fd : FuncData} {ps ks : List Str} {n : Nat} {pm : List Nat} (F : Fun K x qual st f fd)
    (h : ∀ (kV doc pm' : Value) (an : Option Addr) (cdv ct : Value) (us ws xs : List Value), us.length = n → ws.length = ks.length → permL (us ++ ws) pm = some xs →
      bindArgs (PySem.W.fnOf x qual (defArgs st) (defBody st) (defScope st) .none kV doc pm' an cdv ct) ⟨us, ks.zip ws⟩ = pure (ps.zip xs)) : KwOk K fd ps ks n pm := by
  obtain ⟨oc, od, kV, doc, pm', an, cdv, ct, osl, rfl, lk, hcd⟩ := F.ex
  exact ⟨fun s us ws xs _ h1 h2 _ h4 => .of_eq (h kV doc pm' an cdv ct us ws xs h1 h4 h2)⟩
theorem sp_none {mask : List Bool} {vs : List V} {H : Hp} {Q : VK} {E : XK} (h : spF K ⟨mask, fun _ => none⟩ vs H Q E) : False := by
  obtain ⟨O, ds, ms, rv, outs, _, h, _⟩ := h
  cases h
theorem fn_none {f : Addr} {fd : FuncData} {ps : List Str} {mask : List Bool} : FnOk P w K mg base CX0 k f fd ps (spF K ⟨mask, fun _ => none⟩) :=
  ⟨fun _ _ _ _ h => (sp_none h).elim, fun _ _ _ _ _ _ _ _ _ _ _ _ _ h => (sp_none h).elim⟩
end
end Z
namespace Z
open PySem PySem.Spec L2
open PyProof.Rows hiding St

/-! ## the evaluator's functions applied: for simp -/
section
variable {ρ : Rho}
@[simp] theorem x_eC (d : D) : eC d ρ = some (.v d, ρ) := rfl
@[simp] theorem x_d1 (d : D) : RV.d (.v d) = d := rfl
@[simp] theorem x_d2 (d : D) : RV.d (.o d) = d := rfl
@[simp] theorem x_eVar (i : Nat) : eVar i ρ = match ρ[i]? with
  | some (some (.v d)) => some (.v d, ρ)
  | some (some (.o d)) => some (.v d, ρ.set i (some (.v d)))
  | _ => none := rfl
@[simp] theorem x_slot (i : Nat) : slot ρ i = match ρ[i]? with
  | some (some r) => some r.d
  | _ => none := rfl
@[simp] theorem x_oSl (i : Nat) : oSl i ρ = (slot ρ i).bind fun _ => some (.sl i, ρ) := rfl
@[simp] theorem x_oTv (f : ME) : oTv f ρ = (f ρ).bind fun r => some (.tv r.1.d, r.2) := rfl
@[simp] theorem x_get1 (d : D) : Op.get ρ (.tv d) = some d := rfl
@[simp] theorem x_get2 (i : Nat) : Op.get ρ (.sl i) = slot ρ i := rfl
@[simp] theorem x_eOp1 (g : D → Option RV) (fa : MO) : eOp1 g fa ρ = (fa ρ).bind fun r => (r.1.get r.2).bind fun x => (g x).bind fun z => some (z, r.2) := rfl
@[simp] theorem x_eOp2 (g : D → D → Option RV) (fa fb : MO) : eOp2 g fa fb ρ = (fa ρ).bind fun r => (fb r.2).bind fun s => (r.1.get s.2).bind fun x => (s.1.get s.2).bind fun y => (g x y).bind fun z => some (z, s.2) := rfl
@[simp] theorem x_osNil : osNil ρ = some ([], ρ) := rfl
@[simp] theorem x_osCons (f : MO) (g : MOs) : osCons f g ρ = (f ρ).bind fun r => (g r.2).bind fun s => some (r.1 :: s.1, s.2) := rfl
@[simp] theorem x_eB (g : List D → Option RV) (fs : MOs) : eB g fs ρ = (fs ρ).bind fun r => (getAll r.2 r.1).bind fun xs => (g xs).bind fun z => some (z, r.2) := rfl
@[simp] theorem x_getAll0 : getAll ρ [] = some [] := rfl
@[simp] theorem x_getAll1 (p : Op) (ps : List Op) : getAll ρ (p :: ps) = match p.get ρ, getAll ρ ps with
    | some d, some ds => some (d :: ds)
    | _, _ => none := rfl
@[simp] theorem x_tvs0 : tvs [] = some [] := rfl
@[simp] theorem x_tvs1 (d : D) (r : List Op) : tvs (.tv d :: r) = (tvs r).bind fun ds => some (d :: ds) := rfl
@[simp] theorem x_eTup (fs : MOs) : eTup fs ρ = (fs ρ).bind fun r => (tvs r.1).bind fun ds => if szb ds.length then some (.v (.tuple ds), r.2) else none := rfl
@[simp] theorem x_eLst (fs : MOs) : eLst fs ρ = (fs ρ).bind fun r => (tvs r.1).bind fun ds => if szb ds.length then some (.o (.list ds), r.2) else none := rfl
@[simp] theorem x_bTru (fo : MO) : bTru fo ρ = (fo ρ).bind fun r => (r.1.get r.2).bind fun x => (truD x).bind fun b => some (b, r.2) := rfl
@[simp] theorem x_asB (b : Bool) : asB (.v (.bool b)) = some b := rfl
@[simp] theorem x_asI (i : Int) : asI (.v (.int i)) = some i := rfl
@[simp] theorem x_bOp2 (g : D → D → Option RV) (fa fb : MO) : bOp2 g fa fb ρ = (eOp2 g fa fb ρ).bind fun r => (asB r.1).bind fun b => some (b, r.2) := rfl
@[simp] theorem x_bNot (f : MB) : bNot f ρ = (f ρ).bind fun r => some (!r.1, r.2) := rfl
@[simp] theorem x_bAnd (f g : MB) : bAnd f g ρ = (f ρ).bind fun r => if r.1 then g r.2 else some (false, r.2) := rfl
@[simp] theorem x_bOr (f g : MB) : bOr f g ρ = (f ρ).bind fun r => if r.1 then some (true, r.2) else g r.2 := rfl
@[simp] theorem x_bIf (t f g : MB) : bIf t f g ρ = (t ρ).bind fun r => if r.1 then f r.2 else g r.2 := rfl
@[simp] theorem x_eAnd (f g : ME) : eAnd f g ρ = (f ρ).bind fun r => (asB r.1).bind fun b => if b then g r.2 else some (.v (.bool false), r.2) := rfl
@[simp] theorem x_eOr (f g : ME) : eOr f g ρ = (f ρ).bind fun r => (asB r.1).bind fun b => if b then some (.v (.bool true), r.2) else g r.2 := rfl
@[simp] theorem x_eNot (f : ME) : eNot f ρ = (f ρ).bind fun r => (asB r.1).bind fun b => some (.v (.bool (!b)), r.2) := rfl
@[simp] theorem x_eIf (t : MB) (f g : ME) : eIf t f g ρ = (t ρ).bind fun r => if r.1 then f r.2 else g r.2 := rfl
@[simp] theorem x_eChain (g g' : D → D → Option RV) (fa fb fc : MO) : eChain g g' fa fb fc ρ = (fa ρ).bind fun r => (fb r.2).bind fun s => (r.1.get s.2).bind fun x => (s.1.get s.2).bind fun y => (g x y).bind fun z => (asB z).bind fun b =>
  if b then (fc s.2).bind fun t => (s.1.get t.2).bind fun y' => (t.1.get t.2).bind fun w => (g' y' w).bind fun u => some (u, t.2) else some (.v (.bool false), s.2) := rfl
@[simp] theorem x_bChain (g g' : D → D → Option RV) (fa fb fc : MO) : bChain g g' fa fb fc ρ = (eChain g g' fa fb fc ρ).bind fun r => (asB r.1).bind fun b => some (b, r.2) := rfl
@[simp] theorem x_iNo : iNo ρ = some (none, ρ) := rfl
@[simp] theorem x_iSome (f : ME) : iSome f ρ = (f ρ).bind fun r => (asI r.1).bind fun i => some (some i, r.2) := rfl
@[simp] theorem x_eSl (fx : MO) (fl fh : MI) : eSl fx fl fh ρ = (fx ρ).bind fun r => (fl r.2).bind fun l => (fh l.2).bind fun h => (r.1.get h.2).bind fun x => (slD x l.1 h.1).bind fun z => some (z, h.2) := rfl
@[simp] theorem x_eIsi (Ts : List String) (fo : MO) : eIsi Ts fo ρ = (fo ρ).bind fun r => (r.1.get r.2).bind fun d => if isFv d then none else some (.v (.bool (isiD Ts d)), r.2) := rfl
@[simp] theorem x_fvN : isFv .none = false := rfl
@[simp] theorem x_fvB (b : Bool) : isFv (.bool b) = false := rfl
@[simp] theorem x_fvI (i : Int) : isFv (.int i) = false := rfl
@[simp] theorem x_fvS (s : Str) : isFv (.str s) = false := rfl
@[simp] theorem x_fvL (l : List D) : isFv (.list l) = false := rfl
@[simp] theorem x_fvT (l : List D) : isFv (.tuple l) = false := rfl
@[simp] theorem x_fvD (l : List (D × D)) : isFv (.dict l) = isFn l := rfl
@[simp] theorem x_fn0 : isFn [] = false := rfl
@[simp] theorem x_fnS (s : Str) (d : D) (l : List (D × D)) : isFn ((.str s, d) :: l) = false := by cases l <;> rfl
@[simp] theorem x_fnI (i : Int) (d : D) (l : List (D × D)) : isFn ((.int i, d) :: l) = false := by cases l <;> rfl
@[simp] theorem x_sNil : sNil ρ = some (.nx, ρ) := rfl
@[simp] theorem x_sSeq (s t : SS) : sSeq s t ρ = (s ρ).bind fun r => match r.1 with
  | .nx => t r.2
  | o => some (o, r.2) := rfl
@[simp] theorem x_sDrop (f : ME) : sDrop f ρ = (f ρ).bind fun r => some (.nx, r.2) := rfl
@[simp] theorem x_sSet (pr : List Nat) (i : Nat) (f : ME) : sSet pr i f ρ = if pr.contains i then none else (f ρ).bind fun r => some (.nx, r.2.set i (some r.1)) := rfl
@[simp] theorem x_sRet (f : ME) : sRet f ρ = (f ρ).bind fun r => some (.rt r.1, r.2) := rfl
@[simp] theorem x_sRetV (pr : List Nat) (i : Nat) : sRetV pr i ρ = match ρ[i]? with
  | some (some (.v d)) => some (.rt (.v d), ρ)
  | some (some (.o d)) => if pr.contains i || !pr.all (ownAt ρ) then none else some (.rt (.o d), ρ.set i none)
  | _ => none := rfl
@[simp] theorem x_sRetN : sRetN ρ = some (.rt (.v .none), ρ) := rfl
@[simp] theorem x_sIf (t : MB) (a b : SS) : sIf t a b ρ = (t ρ).bind fun r => if r.1 then a r.2 else b r.2 := rfl
@[simp] theorem x_sBad : sBad ρ = none := rfl
@[simp] theorem x_sBk : sBk ρ = some (.bk, ρ) := rfl
@[simp] theorem x_sCt : sCt ρ = some (.ct, ρ) := rfl
@[simp] theorem x_gN (pr : List Nat) (i : Nat) (d : D) : gN pr i d ρ = if pr.contains i then none else some (ρ.set i (some (.v d))) := rfl
@[simp] theorem x_gNil (ds : List D) : gNil ds ρ = match ds with
  | [] => some ρ
  | _ => none := rfl
@[simp] theorem x_gCons (g : SG) (h : SGs) (d : D) (r : List D) : gCons g h (d :: r) ρ = (g d ρ).bind fun ρ1 => h r ρ1 := rfl
@[simp] theorem x_gTn (n : Nat) (h : SGs) (ds : List D) : gTn n h (.tuple ds) ρ = if ds.length = n then h ds ρ else none := rfl
@[simp] theorem x_gIx (o : Nat) (fi : ME) (d : D) : gIx o fi d ρ = (slot ρ o).bind fun _ => (fi ρ).bind fun r => (asV r.1).bind fun i => match r.2[o]? with
  | some (some (.o l)) => (setD l i d).bind fun l' => some (r.2.set o (some (.o l')))
  | _ => none := rfl
@[simp] theorem x_asV (d : D) : asV (.v d) = some d := rfl
@[simp] theorem x_setD (ds : List D) (i : Int) (x : D) : setD (.list ds) (.int i) x = (ixN ds.length i).bind fun j => some (.list (ds.set j x)) := rfl
@[simp] theorem x_sAsg (f : ME) (g : SG) : sAsg f g ρ = (f ρ).bind fun r => (g r.1.d r.2).bind fun ρ2 => some (.nx, ρ2) := rfl
@[simp] theorem x_aNil : aNil ρ = some ([], ρ) := rfl
@[simp] theorem x_aTv (f : ME) (g : MAs) : aTv f g ρ = (f ρ).bind fun r => (g r.2).bind fun s => some (.tv r.1.d :: s.1, s.2) := rfl
@[simp] theorem x_aSl (i : Nat) (g : MAs) : aSl i g ρ = (slot ρ i).bind fun _ => (g ρ).bind fun s => some (.sl i :: s.1, s.2) := rfl
@[simp] theorem x_aOw (f : ME) (g : MAs) : aOw f g ρ = (f ρ).bind fun r => match r.1 with
  | .o d => (g r.2).bind fun s => some (.ow d :: s.1, s.2)
  | _ => none := rfl
@[simp] theorem x_aRv (f : ME) (g : MAs) : aRv f g ρ = (f ρ).bind fun r => (g r.2).bind fun s => some (rvA r.1 :: s.1, s.2) := rfl
@[simp] theorem x_rvA1 (d : D) : rvA (.v d) = .tv d := rfl
@[simp] theorem x_rvA2 (d : D) : rvA (.o d) = .ow d := rfl
@[simp] theorem x_rvsOf0 : rvsOf [] = some [] := rfl
@[simp] theorem x_rvsOf1 (d : D) (r : List AR) : rvsOf (.tv d :: r) = (rvsOf r).bind fun rs => some (.v d :: rs) := rfl
@[simp] theorem x_rvsOf2 (d : D) (r : List AR) : rvsOf (.ow d :: r) = (rvsOf r).bind fun rs => some (.o d :: rs) := rfl
@[simp] theorem x_putRs0 : putRs [] [] ρ = some ρ := rfl
@[simp] theorem x_putRs1 (i : Nat) (is : List Nat) (rv : RV) (rvs : List RV) : putRs (i :: is) (rv :: rvs) ρ = putRs is rvs (ρ.set i (some rv)) := rfl
@[simp] theorem x_sPar (pr is : List Nat) (f : MAs) : sPar pr is f ρ = if is.any pr.contains then none else (f ρ).bind fun r => (rvsOf r.1).bind fun rvs => (putRs is rvs r.2).bind fun ρ2 => some (.nx, ρ2) := rfl
@[simp] theorem x_argsD0 : argsD [] [] ρ = some [] := rfl
@[simp] theorem x_argsD1 (ms : List Bool) (d : D) (ps : List AR) : argsD (false :: ms) (.tv d :: ps) ρ = (argsD ms ps ρ).bind fun ds => some (d :: ds) := rfl
@[simp] theorem x_argsD2 (ms : List Bool) (i : Nat) (ps : List AR) : argsD (true :: ms) (.sl i :: ps) ρ = match ρ[i]? with
    | some (some (.o d)) => (argsD ms ps ρ).bind fun ds => some (d :: ds)
    | _ => none := rfl
@[simp] theorem x_argsD3 (ms : List Bool) (d : D) (ps : List AR) : argsD (true :: ms) (.ow d :: ps) ρ = (argsD ms ps ρ).bind fun ds => some (d :: ds) := rfl
@[simp] theorem x_own0 : ownIx [] [] = [] := rfl
@[simp] theorem x_own1 (ms : List Bool) (p : AR) (ps : List AR) : ownIx (false :: ms) (p :: ps) = ownIx ms ps := rfl
@[simp] theorem x_own2 (ms : List Bool) (i : Nat) (ps : List AR) : ownIx (true :: ms) (.sl i :: ps) = i :: ownIx ms ps := rfl
@[simp] theorem x_own3 (ms : List Bool) (d : D) (ps : List AR) : ownIx (true :: ms) (.ow d :: ps) = ownIx ms ps := rfl
@[simp] theorem x_putO0 : putO [] [] [] ρ = some ρ := rfl
@[simp] theorem x_putO1 (ms : List Bool) (p : AR) (ps : List AR) (os : List D) : putO (false :: ms) (p :: ps) os ρ = putO ms ps os ρ := rfl
@[simp] theorem x_putO2 (ms : List Bool) (i : Nat) (ps : List AR) (d : D) (os : List D) : putO (true :: ms) (.sl i :: ps) (d :: os) ρ = putO ms ps os (ρ.set i (some (.o d))) := rfl
@[simp] theorem x_putO3 (ms : List Bool) (e : D) (ps : List AR) (d : D) (os : List D) : putO (true :: ms) (.ow e :: ps) (d :: os) ρ = putO ms ps os ρ := rfl
@[simp] theorem x_nodup0 : nodupN [] = true := rfl
@[simp] theorem x_nodup1 (i : Nat) : nodupN [i] = true := by simp [nodupN]
@[simp] theorem x_call (F : FnS) (fs : MAs) : eCall F fs ρ = (fs ρ).bind fun x => (argsD F.mask x.1 x.2).bind fun ds => if nodupN (ownIx F.mask x.1) then (F.run ds).bind fun w => (putO F.mask x.1 w.2 x.2).bind fun ρ2 => some (w.1, ρ2) else none := rfl
@[simp] theorem x_callK (F : FnS) (n m : Nat) (pm : List Nat) (fs gs : MOs) : eCallK F n m pm fs gs ρ = (fs ρ).bind fun r => (tvs r.1).bind fun ds => (gs r.2).bind fun s => (tvs s.1).bind fun es => (permL (ds ++ es) pm).bind fun xs =>
  if F.mask.all (fun b => !b) && decide (xs.length = F.mask.length) && decide (ds.length = n) && decide (es.length = m) then (F.run xs).bind fun w => some (w.1, s.2) else none := rfl
@[simp] theorem x_perm0 {α : Type} (xs : List α) : permL xs [] = some [] := rfl
@[simp] theorem x_perm1 {α : Type} (xs : List α) (i : Nat) (is : List Nat) : permL xs (i :: is) = xs[i]?.bind fun x => (permL xs is).bind fun r => some (x :: r) := rfl
@[simp] theorem x_init0 : initR [] [] = [] := rfl
@[simp] theorem x_init1 (ms : List Bool) (d : D) (ds : List D) : initR (false :: ms) (d :: ds) = some (.v d) :: initR ms ds := rfl
@[simp] theorem x_init2 (ms : List Bool) (d : D) (ds : List D) : initR (true :: ms) (d :: ds) = some (.o d) :: initR ms ds := rfl
@[simp] theorem x_pr0 (n : Nat) : prOf n [] = [] := rfl
@[simp] theorem x_pr1 (n : Nat) (ms : List Bool) : prOf n (true :: ms) = n :: prOf (n + 1) ms := rfl
@[simp] theorem x_pr2 (n : Nat) (ms : List Bool) : prOf n (false :: ms) = prOf (n + 1) ms := rfl
@[simp] theorem x_outs0 : outsOf ρ [] = some [] := rfl
@[simp] theorem x_outs1 (i : Nat) (is : List Nat) : outsOf ρ (i :: is) = match ρ[i]? with
    | some (some (.o d)) => (outsOf ρ is).bind fun ds => some (d :: ds)
    | _ => none := rfl
theorem x_run (n : Nat) (mask : List Bool) (body : SS) (ds : List D) (h : ds.length = mask.length) : runF n mask body ds = (body (initR mask ds ++ List.replicate (n - mask.length) none)).bind fun r => match r.1 with
    | .rt rv => (outsOf r.2 (prOf 0 mask)).bind fun os => some (rv, os)
    | .nx => (outsOf r.2 (prOf 0 mask)).bind fun os => some (.v .none, os)
    | _ => none := if_pos h
@[simp] theorem x_addI (i j : Int) : addD (.int i) (.int j) = some (.v (.int (i + j))) := rfl
@[simp] theorem x_subI (i j : Int) : subD (.int i) (.int j) = some (.v (.int (i - j))) := rfl
@[simp] theorem x_ltI (i j : Int) : ltD (.int i) (.int j) = some (.v (.bool (decide (i < j)))) := rfl
@[simp] theorem x_leI (i j : Int) : leD (.int i) (.int j) = some (.v (.bool (decide (i ≤ j)))) := rfl
@[simp] theorem x_gtI (i j : Int) : gtD (.int i) (.int j) = some (.v (.bool (decide (j < i)))) := rfl
@[simp] theorem x_geI (i j : Int) : geD (.int i) (.int j) = some (.v (.bool (decide (j ≤ i)))) := rfl
@[simp] theorem x_negI (i : Int) : negD (.int i) = some (.v (.int (-i))) := rfl
theorem x_mulI (i j : Int) : mulD (.int i) (.int j) = if in64 i || in64 j then some (.v (.int (i * j))) else none := rfl
theorem x_divI (i j : Int) : fdivD (.int i) (.int j) = if decide (0 < j) && decide (j < 1073741824) then some (.v (.int (i / j))) else none := rfl
theorem x_modI (i j : Int) : modD (.int i) (.int j) = if decide (0 < j) then some (.v (.int (i % j))) else none := rfl
@[simp] theorem x_truB (b : Bool) : truD (.bool b) = some b := rfl
@[simp] theorem x_intI (i : Int) : intD [.int i] = some (.v (.int i)) := rfl
@[simp] theorem x_eqI (i j : Int) : eqD (.int i) (.int j) = some (.v (.bool (decide (i = j)))) := by
  unfold eqD
  rw [if_pos (show (okE (.int i) && okE (.int j)) = true from rfl)]
  rfl

@[simp] theorem x_mod {i j : Int} (h : 0 < j) : modD (.int i) (.int j) = some (.v (.int (i % j))) := by rw [x_modI, decide_eq_true h]; rfl
@[simp] theorem x_div {i j : Int} (h : 0 < j) (h2 : j < 1073741824) : fdivD (.int i) (.int j) = some (.v (.int (i / j))) := by rw [x_divI, decide_eq_true h, decide_eq_true h2]; rfl
theorem in64_of {i : Int} (h1 : -18446744073709551616 < i) (h2 : i < 18446744073709551616) : in64 i = true := by
  exact decide_eq_true (show i.natAbs < 18446744073709551616 by omega)
@[simp] theorem x_mulR {i j : Int} (h1 : -18446744073709551616 < j) (h2 : j < 18446744073709551616) : mulD (.int i) (.int j) = some (.v (.int (i * j))) := by rw [x_mulI, in64_of h1 h2, Bool.or_true]; rfl
@[simp] theorem x_mulL {i j : Int} (h1 : -18446744073709551616 < i) (h2 : i < 18446744073709551616) : mulD (.int i) (.int j) = some (.v (.int (i * j))) := by rw [x_mulI, in64_of h1 h2, Bool.true_or]; rfl
@[simp] theorem x_pow {i j : Int} (h0 : 0 ≤ j) (h : j ≤ 1000000) (h1 : -18446744073709551616 < i) (h2 : i < 18446744073709551616) : powD (.int i) (.int j) = some (.v (.int (i ^ j.toNat))) := by
  show (if decide (0 ≤ j) && decide (j ≤ 1000000) && in64 i then some (RV.v (.int (i ^ j.toNat))) else none) = _
  rw [decide_eq_true h0, decide_eq_true h, in64_of h1 h2]; rfl
@[simp] theorem x_divmod {i j : Int} (h : 0 < j) (h2 : j < 1073741824) : divmodD [.int i, .int j] = some (.v (.tuple [.int (i / j), .int (i % j)])) := by
  show (if decide (0 < j) && decide (j < 1073741824) then some (RV.v (.tuple [.int (i / j), .int (i % j)])) else none) = _
  rw [decide_eq_true h, decide_eq_true h2]; rfl
@[simp] theorem x_absI (i : Int) : absD [.int i] = some (.v (.int (if i < 0 then -i else i))) := rfl
@[simp] theorem x_maxI (i j : Int) : maxD [.int i, .int j] = some (.v (.int (if j > i then j else i))) := rfl
@[simp] theorem x_minI (i j : Int) : minD [.int i, .int j] = some (.v (.int (if j < i then j else i))) := rfl
@[simp] theorem x_lenL (ds : List D) : lenD [.list ds] = some (.v (.int ds.length)) := rfl
@[simp] theorem x_lenT (ds : List D) : lenD [.tuple ds] = some (.v (.int ds.length)) := rfl
@[simp] theorem x_ixL (xs : List D) (i : Int) : ixD (.list xs) (.int i) = (atI xs i).map .v := rfl
@[simp] theorem x_ixT (xs : List D) (i : Int) : ixD (.tuple xs) (.int i) = (atI xs i).map .v := rfl
theorem ixN_of {n : Nat} {j : Nat} : ixN n (j : Int) = if j < n then some j else none := by
  unfold ixN
  rw [if_pos (by omega)]
  by_cases h : j < n
  · rw [if_pos (by omega), if_pos h]; simp
  · rw [if_neg (by omega), if_neg h]
@[simp] theorem x_ixN0 (n : Nat) : ixN n 0 = if 0 < n then some 0 else none := ixN_of (j := 0)
@[simp] theorem x_ixN1 (n : Nat) : ixN n 1 = if 1 < n then some 1 else none := ixN_of (j := 1)
@[simp] theorem x_ixN2 (n : Nat) : ixN n 2 = if 2 < n then some 2 else none := ixN_of (j := 2)
@[simp] theorem x_ixN3 (n : Nat) : ixN n 3 = if 3 < n then some 3 else none := ixN_of (j := 3)
@[simp] theorem x_ixN4 (n : Nat) : ixN n 4 = if 4 < n then some 4 else none := ixN_of (j := 4)
@[simp] theorem x_ixN5 (n : Nat) : ixN n 5 = if 5 < n then some 5 else none := ixN_of (j := 5)
@[simp] theorem x_ixN6 (n : Nat) : ixN n 6 = if 6 < n then some 6 else none := ixN_of (j := 6)
@[simp] theorem x_ixN7 (n : Nat) : ixN n 7 = if 7 < n then some 7 else none := ixN_of (j := 7)
@[simp] theorem x_ixN8 (n : Nat) : ixN n 8 = if 8 < n then some 8 else none := ixN_of (j := 8)
@[simp] theorem x_ixN9 (n : Nat) : ixN n 9 = if 9 < n then some 9 else none := ixN_of (j := 9)
@[simp] theorem x_ixN10 (n : Nat) : ixN n 10 = if 10 < n then some 10 else none := ixN_of (j := 10)
@[simp] theorem x_ixN11 (n : Nat) : ixN n 11 = if 11 < n then some 11 else none := ixN_of (j := 11)
@[simp] theorem x_ixN12 (n : Nat) : ixN n 12 = if 12 < n then some 12 else none := ixN_of (j := 12)
@[simp] theorem x_ixNm (n : Nat) : ixN n (-1) = if 0 < n then some (n - 1) else none := by
  unfold ixN
  rw [if_neg (by decide)]
  by_cases h : 0 < n
  · rw [if_pos (by omega), if_pos h]; congr 1; omega
  · rw [if_neg (by omega), if_neg h]
theorem atI_of {xs : List D} {j : Nat} : atI xs (j : Int) = xs[j]? := by
  unfold atI
  rw [ixN_of]
  by_cases h : j < xs.length
  · rw [if_pos h]; rfl
  · rw [if_neg h, List.getElem?_eq_none (by omega)]; rfl
@[simp] theorem x_at0 (xs : List D) : atI xs 0 = xs[0]? := atI_of (j := 0)
@[simp] theorem x_at1 (xs : List D) : atI xs 1 = xs[1]? := atI_of (j := 1)
@[simp] theorem x_at2 (xs : List D) : atI xs 2 = xs[2]? := atI_of (j := 2)
@[simp] theorem x_at3 (xs : List D) : atI xs 3 = xs[3]? := atI_of (j := 3)
@[simp] theorem x_at4 (xs : List D) : atI xs 4 = xs[4]? := atI_of (j := 4)
@[simp] theorem x_at5 (xs : List D) : atI xs 5 = xs[5]? := atI_of (j := 5)
@[simp] theorem x_at6 (xs : List D) : atI xs 6 = xs[6]? := atI_of (j := 6)
@[simp] theorem x_at7 (xs : List D) : atI xs 7 = xs[7]? := atI_of (j := 7)
@[simp] theorem x_at8 (xs : List D) : atI xs 8 = xs[8]? := atI_of (j := 8)
@[simp] theorem x_at9 (xs : List D) : atI xs 9 = xs[9]? := atI_of (j := 9)
@[simp] theorem x_at10 (xs : List D) : atI xs 10 = xs[10]? := atI_of (j := 10)
@[simp] theorem x_at11 (xs : List D) : atI xs 11 = xs[11]? := atI_of (j := 11)
@[simp] theorem x_at12 (xs : List D) : atI xs 12 = xs[12]? := atI_of (j := 12)
@[simp] theorem x_atm (xs : List D) : atI xs (-1) = xs[xs.length - 1]? := by
  unfold atI
  rw [x_ixNm]
  by_cases h : 0 < xs.length
  · rw [if_pos h]; rfl
  · rw [if_neg h, List.getElem?_eq_none (by omega)]; rfl
@[simp] theorem x_isN1 (d : D) : isD d .none = some (.v (.bool (isN d))) := by cases d <;> rfl
@[simp] theorem x_isNN : isN .none = true := rfl
@[simp] theorem x_isB (a b : Bool) : isD (.bool a) (.bool b) = some (.v (.bool (decide (a = b)))) := rfl
theorem x_isNot (x y : D) : isNotD x y = match isD x y with
  | some (.v (.bool b)) => bl (!b)
  | _ => none := rfl
@[simp] theorem x_isNotN (d : D) : isNotD d .none = some (.v (.bool (!isN d))) := by rw [x_isNot, x_isN1]; rfl
@[simp] theorem x_isNotB (a b : Bool) : isNotD (.bool a) (.bool b) = some (.v (.bool (!decide (a = b)))) := rfl
@[simp] theorem x_eqB (i j : Bool) : eqD (.bool i) (.bool j) = some (.v (.bool (decide (i = j)))) := by cases i <;> cases j <;> rfl
theorem x_neq (x y : D) (h : (okE x && okE y) = true) : neD x y = match eqD x y with
  | some (.v (.bool b)) => bl (!b)
  | _ => none := by
  unfold neD eqD
  rw [if_pos h, if_pos h]; rfl
@[simp] theorem x_neI (i j : Int) : neD (.int i) (.int j) = some (.v (.bool (!decide (i = j)))) := by rw [x_neq _ _ rfl, x_eqI]; rfl
@[simp] theorem x_sFor (fi : MIt) (g : SG) (b : SS) : sFor fi g b ρ = (fi ρ).bind fun r => forL g b r.1 r.2 := rfl
@[simp] theorem x_iSeq (f : ME) : iSeq f ρ = (f ρ).bind fun r => match r.1 with
  | .v (.list ds) => some (ds, r.2)
  | .v (.tuple ds) => some (ds, r.2)
  | .v (.str s) => some (signs s, r.2)
  | .o (.list ds) => some (ds, r.2)
  | .o (.dict ds) => some (keysD ds, r.2)
  | _ => none := rfl
@[simp] theorem x_iFn (fi : List D → Option (List D)) (fs : MOs) : iFn fi fs ρ = (fs ρ).bind fun r => (tvs r.1).bind fun xs => (fi xs).bind fun ds => some (ds, r.2) := rfl
theorem in62_of {i : Int} (h1 : -4611686018427387904 < i) (h2 : i < 4611686018427387904) : in62 i = true := by
  exact decide_eq_true (show i.natAbs < 4611686018427387904 by omega)
@[simp] theorem x_rng1 {j : Int} (h1 : -4611686018427387904 < j) (h2 : j < 4611686018427387904) : rng1 [.int j] = some (upTo 0 j.toNat) := by
  show (if in62 j then some (upTo 0 j.toNat) else none) = _
  rw [in62_of h1 h2]; rfl
@[simp] theorem x_rng2 {i j : Int} (h1 : -4611686018427387904 < j) (h2 : j < 4611686018427387904) (h3 : -4611686018427387904 < i) (h4 : i < 4611686018427387904) : rng2 [.int i, .int j] = some (upTo i (j - i).toNat) := by
  show (if in62 i && in62 j then some (upTo i (j - i).toNat) else none) = _
  rw [in62_of h1 h2, in62_of h3 h4]; rfl
@[simp] theorem x_eRg1 (l : Bool) (fa : ME) : eRg1 l fa ρ = (fa ρ).bind fun r => (asI r.1).bind fun n => (mkRg l 0 n).bind fun z => some (z, r.2) := rfl
@[simp] theorem x_eRg2 (l : Bool) (fa fb : ME) : eRg2 l fa fb ρ = (fa ρ).bind fun r => (asI r.1).bind fun m => (fb r.2).bind fun s => (asI s.1).bind fun n => (mkRg l m n).bind fun z => some (z, s.2) := rfl
theorem mkRg_ok {l : Bool} {a b : Int} (h1 : -16777216 ≤ a) (h2 : a ≤ 16777216) (h3 : b ≤ 16777216) (h4 : b - a ≤ 16777216) (h5 : -16777216 ≤ b) : mkRg l a b = some (if l then .o (.list (upTo a (b - a).toNat)) else .v (.tuple (upTo a (b - a).toNat))) := by
  unfold mkRg
  rw [in62_of (by omega) (by omega), in62_of (by omega) (by omega), show szb (b - a).toNat = true from decide_eq_true (by omega)]; rfl
@[simp] theorem x_eLc (vs : List Nat) (fi : MIt) (g : SG) (t : MB) (f : ME) : eLc vs fi g t f ρ = (fi ρ).bind fun r =>
  if vs.any (ownAt r.2) then none else (lcL vs g t f r.1 (wipeR r.2 vs) []).bind fun s => some (.o (.list s.1), backR r.2 s.2 vs) := rfl
@[simp] theorem x_eLc2 (vs vs1 : List Nat) (fi : MIt) (g : SG) (t : MB) (fi1 : MIt) (g1 : SG) (t1 : MB) (f : ME) : eLc2 vs vs1 fi g t fi1 g1 t1 f ρ = (fi ρ).bind fun r =>
  if vs.any (ownAt r.2) then none else (lcL2 vs vs1 g t fi1 g1 t1 f r.1 (wipeR r.2 vs) []).bind fun s => some (.o (.list s.1), backR r.2 s.2 vs) := rfl
@[simp] theorem x_bYes : bYes ρ = some (true, ρ) := rfl
@[simp] theorem x_wipe0 : wipeR ρ [] = ρ := rfl
@[simp] theorem x_wipe1 (v : Nat) (vs : List Nat) : wipeR ρ (v :: vs) = (wipeR ρ vs).set v none := rfl
@[simp] theorem x_back0 (ρ0 : Rho) : backR ρ0 ρ [] = ρ := rfl
@[simp] theorem x_back1 (ρ0 : Rho) (v : Nat) (vs : List Nat) : backR ρ0 ρ (v :: vs) = (backR ρ0 ρ vs).set v ((ρ0[v]?).getD none) := rfl
@[simp] theorem x_ownAt (i : Nat) : ownAt ρ i = match ρ[i]? with
  | some (some (.o _)) => true
  | _ => false := rfl
@[simp] theorem x_slL (xs : List D) (lo hi : Option Int) : slD (.list xs) lo hi = some (.o (.list (cut xs lo hi))) := rfl
@[simp] theorem x_slT (xs : List D) (lo hi : Option Int) : slD (.tuple xs) lo hi = some (.v (.tuple (cut xs lo hi))) := rfl
theorem szb_of {n : Nat} (h : n ≤ 16777216) : szb n = true := decide_eq_true h
theorem x_addL {xs ys : List D} (h : xs.length + ys.length ≤ 16777216) : addD (.list xs) (.list ys) = some (.o (.list (xs ++ ys))) := by
  show (if szb (xs.length + ys.length) then some (RV.o (.list (xs ++ ys))) else none) = _
  rw [szb_of h]; rfl
theorem x_addT {xs ys : List D} (h : xs.length + ys.length ≤ 16777216) : addD (.tuple xs) (.tuple ys) = some (.v (.tuple (xs ++ ys))) := by
  show (if szb (xs.length + ys.length) then some (RV.v (.tuple (xs ++ ys))) else none) = _
  rw [szb_of h]; rfl
theorem cut_take (xs : List D) (k : Nat) : cut xs none (some (k : Int)) = xs.take k := by
  unfold cut
  rw [HT.sIx_none, HT.sIx_nat, List.drop_zero, Nat.sub_zero]
  rw [List.take_eq_take_iff]; omega
theorem boolsOf_mp {α : Type} (p : α → Bool) : ∀ l : List α, boolsOf (l.map fun x => .bool (p x)) = some (l.map p)
  | [] => rfl
  | x :: l => by rw [List.map_cons, boolsOf, boolsOf_mp p l]; rfl
theorem x_all {ds : List D} {bs : List Bool} (h : boolsOf ds = some bs) : allD [.list ds] = some (.v (.bool (bs.all id))) := by
  show (boolsOf ds).map (fun bs => RV.v (.bool (bs.all id))) = _
  rw [h]; rfl
end

/-! ## loops -/
theorem forL_gen {g : SG} {b : SS} {I : List D → Rho → Prop} {Z : Out → Rho → Prop} (step : ∀ d ds ρ, I (d :: ds) ρ → ∃ ρ1, g d ρ = some ρ1 ∧ ∃ o ρ2, b ρ1 = some (o, ρ2) ∧ match o with
    | .nx => I ds ρ2
    | .ct => I ds ρ2
    | .bk => Z .nx ρ2
    | .rt v => Z (.rt v) ρ2) (fin : ∀ ρ, I [] ρ → Z .nx ρ) : ∀ ds ρ, I ds ρ → ∃ o ρ', forL g b ds ρ = some (o, ρ') ∧ Z o ρ'
  | [], ρ, h => ⟨.nx, ρ, rfl, fin ρ h⟩
  | d :: ds, ρ, h => by
    obtain ⟨ρ1, h1, o, ρ2, h2, h3⟩ := step d ds ρ h
    unfold forL
    rw [h1, Option.bind_some, h2, Option.bind_some]
    cases o with
    | nx => exact forL_gen step fin ds ρ2 h3
    | ct => exact forL_gen step fin ds ρ2 h3
    | bk => exact ⟨.nx, ρ2, rfl, h3⟩
    | rt v => exact ⟨.rt v, ρ2, rfl, h3⟩
theorem forL_st {g : SG} {b : SS} {I : List D → Rho → Prop} (step : ∀ d ds ρ, I (d :: ds) ρ → ∃ ρ1, g d ρ = some ρ1 ∧ ∃ ρ2, b ρ1 = some (.nx, ρ2) ∧ I ds ρ2) : ∀ ds ρ, I ds ρ → ∃ ρ', forL g b ds ρ = some (.nx, ρ') ∧ I [] ρ'
  | [], ρ, h => ⟨ρ, rfl, h⟩
  | d :: ds, ρ, h => by
    obtain ⟨ρ1, h1, ρ2, h2, h3⟩ := step d ds ρ h
    unfold forL
    rw [h1, Option.bind_some, h2, Option.bind_some]
    exact forL_st step ds ρ2 h3
theorem whileN_ok {t : MB} {b : SS} {I : Nat → Rho → Prop} {J : Rho → Prop} (step : ∀ m ρ, I m ρ → (∃ ρ1, t ρ = some (false, ρ1) ∧ J ρ1) ∨ ∃ ρ1 ρ2 m', t ρ = some (true, ρ1) ∧ b ρ1 = some (.nx, ρ2) ∧ m' < m ∧ I m' ρ2) :
    ∀ n m ρ, m < n → I m ρ → ∃ ρ', whileN t b n ρ = some (.nx, ρ') ∧ J ρ'
  | 0, m, ρ, h, _ => by omega
  | n + 1, m, ρ, h, i => by
    unfold whileN
    rcases step m ρ i with ⟨ρ1, h1, h2⟩ | ⟨ρ1, ρ2, m', h1, h2, h3, h4⟩
    · rw [h1, Option.bind_some]
      exact ⟨ρ1, rfl, h2⟩
    · rw [h1, Option.bind_some]
      simp only [if_true, h2, Option.bind_some]
      exact whileN_ok step n m' ρ2 (by omega) h4
theorem lcL_st {vs : List Nat} {g : SG} {t : MB} {f : ME} {I : List D → List D → Rho → Prop} (step : ∀ d ds acc ρ, I (d :: ds) acc ρ → ∃ ρ1 ρ2 k, g d ρ = some ρ1 ∧ t ρ1 = some (k, ρ2) ∧
      if k then ∃ rv ρ3, f ρ2 = some (rv, ρ3) ∧ acc.length < 16777216 ∧ I ds (acc ++ [rv.d]) (wipeR ρ3 vs) else I ds acc (wipeR ρ2 vs)) :
    ∀ ds acc ρ, I ds acc ρ → ∃ acc' ρ', lcL vs g t f ds ρ acc = some (acc', ρ') ∧ I [] acc' ρ'
  | [], acc, ρ, h => ⟨acc, ρ, rfl, h⟩
  | d :: ds, acc, ρ, h => by
    obtain ⟨ρ1, ρ2, k, h1, h2, h3⟩ := step d ds acc ρ h
    unfold lcL
    rw [h1, Option.bind_some, h2, Option.bind_some]
    cases k with
    | false => exact lcL_st step ds acc _ h3
    | true =>
      obtain ⟨rv, ρ3, h4, h5, h6⟩ := h3
      simp only [if_true, h4, Option.bind_some, decide_eq_true h5]
      exact lcL_st step ds _ _ h6
/-- a comprehension that leaves its names as they were -/
theorem lcL_map {vs : List Nat} {g : SG} {t : MB} {f : ME} {ρ0 : Rho} (h : D → D) {ds : List D} (hl : ds.length ≤ 16777216) (step : ∀ d ∈ ds, ∃ ρ1 ρ2 rv ρ3, g d ρ0 = some ρ1 ∧ t ρ1 = some (true, ρ2) ∧ f ρ2 = some (rv, ρ3) ∧ rv.d = h d ∧ wipeR ρ3 vs = ρ0) :
    lcL vs g t f ds ρ0 [] = some (ds.map h, ρ0) := by
  have gen : ∀ (es acc : List D), (∀ d ∈ es, d ∈ ds) → acc.length + es.length ≤ 16777216 → lcL vs g t f es ρ0 acc = some (acc ++ es.map h, ρ0) := by
    intro es
    induction es with
    | nil => intro acc _ _; unfold lcL; rw [List.map_nil, List.append_nil]
    | cons d es ih =>
      intro acc hm ha
      obtain ⟨ρ1, ρ2, rv, ρ3, h1, h2, h3, h4, h5⟩ := step d (hm d List.mem_cons_self)
      unfold lcL
      rw [List.length_cons] at ha
      rw [h1, Option.bind_some, h2, Option.bind_some]
      simp only [if_true, h3, Option.bind_some, decide_eq_true (show acc.length < 16777216 by omega), h4, h5]
      rw [ih _ (fun e he => hm e (List.mem_cons_of_mem _ he)) (by rw [List.length_append, List.length_singleton]; omega), List.append_assoc]
      rfl
  have := gen ds [] (fun _ h => h) (by simpa using hl)
  simpa using this
end Z
namespace Z
open PySem PySem.Spec L2
open PyProof.Rows hiding St

/-! ## constants of the module that hold tuples -/
theorem datsB_ok {K : PySem.W.Frag} {f : D → Value → Bool} (ih : ∀ d u, f d u = true → ∃ v, RelV v u ∧ ∀ H O, Rep K H O d v) : ∀ (ds : List D) (us : List Value), datsB f ds us = true → ∃ vs, Vals vs us ∧ ∀ H O, Reps K H O ds vs
  | [], [], _ => ⟨[], .nil, fun _ _ => .nil⟩
  | d :: ds, u :: us, h => by
    have h : (f d u && datsB f ds us) = true := h
    rw [Bool.and_eq_true] at h
    obtain ⟨v, h1, h2⟩ := ih d u h.1
    obtain ⟨vs, h3, h4⟩ := datsB_ok ih ds us h.2
    exact ⟨v :: vs, .cons h1 h3, fun H O => .cons (h2 H O) (h4 H O)⟩
  | [], _ :: _, h => by cases h
  | _ :: _, [], h => by cases h
theorem datB_ok {K : PySem.W.Frag} : ∀ (n : Nat) (d : D) (u : Value), datB K n d u = true → ∃ v, RelV v u ∧ ∀ H O, Rep K H O d v := by
  intro n
  induction n with
  | zero =>
    intro d u h
    unfold datB at h
    split at h
    · exact ⟨_, He.relB_ok h, fun _ _ => .non⟩
    · exact ⟨_, He.relB_ok h, fun _ _ => .bl _⟩
    · exact ⟨_, He.relB_ok h, fun _ _ => .int _⟩
    · rw [Bool.and_eq_true] at h
      exact ⟨_, He.relB_ok h.2, fun _ _ => .str _ h.1⟩
    · rename_i e; cases e
    · cases h
  | succ n ih =>
    intro d u h
    unfold datB at h
    split at h
    · exact ⟨_, He.relB_ok h, fun _ _ => .non⟩
    · exact ⟨_, He.relB_ok h, fun _ _ => .bl _⟩
    · exact ⟨_, He.relB_ok h, fun _ _ => .int _⟩
    · rw [Bool.and_eq_true] at h
      exact ⟨_, He.relB_ok h.2, fun _ _ => .str _ h.1⟩
    · rename_i e
      cases e
      split at h
      · rename_i c od its m osl q
        simp only [Bool.and_eq_true, decide_eq_true_eq] at h
        obtain ⟨h1, h2, h3⟩ := h
        obtain ⟨vs, h4, h5⟩ := datsB_ok ih _ _ h3
        exact ⟨.ref _, rfl, fun H O => .tup (.inr (.inr ⟨_, its, m, q, congrArg Value.type h1, rfl, h2, h4⟩)) (h5 H O)⟩
      · cases h
    · cases h
theorem datG_ok {K : PySem.W.Frag} {h : Heap} {mg : Str → Option Value} {x : Str} {d : D} (X : K.In h) (G : h.Ns mainGlobals mg) (c : datG K (x, d) = true) : ∃ v u, mg x = some u ∧ RelV v u ∧ ∀ H O, Rep K H O d v := by
  unfold datG at c
  split at c
  · rename_i u e
    obtain ⟨v, h1, h2⟩ := datB_ok 6 d u c
    exact ⟨v, u, PySem.W.mg_of X G e, h1, h2⟩
  · cases c
theorem TabOk.putC {k : Nat} {T : Tab} {P : Program} {w : World} {K : PySem.W.Frag} {mg : Str → Option Value} {base h : Heap} (t : TabOk k T P w K mg base) {x : Str} {d : D} (X : K.In h) (G : h.Ns mainGlobals mg) (c : datG K (x, d) = true) : TabOk k (T.put x d) P w K mg base := by
  obtain ⟨v, u, h1, h2, h3⟩ := datG_ok X G c
  exact t.put h1 h2 h3
end Z
namespace Z
open PySem PySem.Spec L2
open PyProof.Rows hiding St

/-! ## more lemmas for simp: types, texts, cuts -/
@[simp] theorem x_is1 (b : Bool) (i : Int) (s : Str) (l : List D) (m : List (D × D)) : isiD ["int"] .none = false := rfl
@[simp] theorem x_is2 (b : Bool) (i : Int) (s : Str) (l : List D) (m : List (D × D)) : isiD ["int"] (.bool b) = true := rfl
@[simp] theorem x_is3 (b : Bool) (i : Int) (s : Str) (l : List D) (m : List (D × D)) : isiD ["int"] (.int i) = true := rfl
@[simp] theorem x_is4 (b : Bool) (i : Int) (s : Str) (l : List D) (m : List (D × D)) : isiD ["int"] (.str s) = false := rfl
@[simp] theorem x_is5 (b : Bool) (i : Int) (s : Str) (l : List D) (m : List (D × D)) : isiD ["int"] (.list l) = false := rfl
@[simp] theorem x_is6 (b : Bool) (i : Int) (s : Str) (l : List D) (m : List (D × D)) : isiD ["int"] (.tuple l) = false := rfl
@[simp] theorem x_is7 (b : Bool) (i : Int) (s : Str) (l : List D) (m : List (D × D)) : isiD ["int"] (.dict m) = false := rfl
@[simp] theorem x_is8 (b : Bool) (i : Int) (s : Str) (l : List D) (m : List (D × D)) : isiD ["bool"] .none = false := rfl
@[simp] theorem x_is9 (b : Bool) (i : Int) (s : Str) (l : List D) (m : List (D × D)) : isiD ["bool"] (.bool b) = true := rfl
@[simp] theorem x_is10 (b : Bool) (i : Int) (s : Str) (l : List D) (m : List (D × D)) : isiD ["bool"] (.int i) = false := rfl
@[simp] theorem x_is11 (b : Bool) (i : Int) (s : Str) (l : List D) (m : List (D × D)) : isiD ["bool"] (.str s) = false := rfl
@[simp] theorem x_is12 (b : Bool) (i : Int) (s : Str) (l : List D) (m : List (D × D)) : isiD ["bool"] (.list l) = false := rfl
@[simp] theorem x_is13 (b : Bool) (i : Int) (s : Str) (l : List D) (m : List (D × D)) : isiD ["bool"] (.tuple l) = false := rfl
@[simp] theorem x_is14 (b : Bool) (i : Int) (s : Str) (l : List D) (m : List (D × D)) : isiD ["bool"] (.dict m) = false := rfl
@[simp] theorem x_is15 (b : Bool) (i : Int) (s : Str) (l : List D) (m : List (D × D)) : isiD ["str"] .none = false := rfl
@[simp] theorem x_is16 (b : Bool) (i : Int) (s : Str) (l : List D) (m : List (D × D)) : isiD ["str"] (.bool b) = false := rfl
@[simp] theorem x_is17 (b : Bool) (i : Int) (s : Str) (l : List D) (m : List (D × D)) : isiD ["str"] (.int i) = false := rfl
@[simp] theorem x_is18 (b : Bool) (i : Int) (s : Str) (l : List D) (m : List (D × D)) : isiD ["str"] (.str s) = true := rfl
@[simp] theorem x_is19 (b : Bool) (i : Int) (s : Str) (l : List D) (m : List (D × D)) : isiD ["str"] (.list l) = false := rfl
@[simp] theorem x_is20 (b : Bool) (i : Int) (s : Str) (l : List D) (m : List (D × D)) : isiD ["str"] (.tuple l) = false := rfl
@[simp] theorem x_is21 (b : Bool) (i : Int) (s : Str) (l : List D) (m : List (D × D)) : isiD ["str"] (.dict m) = false := rfl
@[simp] theorem x_is22 (b : Bool) (i : Int) (s : Str) (l : List D) (m : List (D × D)) : isiD ["list"] .none = false := rfl
@[simp] theorem x_is23 (b : Bool) (i : Int) (s : Str) (l : List D) (m : List (D × D)) : isiD ["list"] (.bool b) = false := rfl
@[simp] theorem x_is24 (b : Bool) (i : Int) (s : Str) (l : List D) (m : List (D × D)) : isiD ["list"] (.int i) = false := rfl
@[simp] theorem x_is25 (b : Bool) (i : Int) (s : Str) (l : List D) (m : List (D × D)) : isiD ["list"] (.str s) = false := rfl
@[simp] theorem x_is26 (b : Bool) (i : Int) (s : Str) (l : List D) (m : List (D × D)) : isiD ["list"] (.list l) = true := rfl
@[simp] theorem x_is27 (b : Bool) (i : Int) (s : Str) (l : List D) (m : List (D × D)) : isiD ["list"] (.tuple l) = false := rfl
@[simp] theorem x_is28 (b : Bool) (i : Int) (s : Str) (l : List D) (m : List (D × D)) : isiD ["list"] (.dict m) = false := rfl
@[simp] theorem x_is29 (b : Bool) (i : Int) (s : Str) (l : List D) (m : List (D × D)) : isiD ["tuple"] .none = false := rfl
@[simp] theorem x_is30 (b : Bool) (i : Int) (s : Str) (l : List D) (m : List (D × D)) : isiD ["tuple"] (.bool b) = false := rfl
@[simp] theorem x_is31 (b : Bool) (i : Int) (s : Str) (l : List D) (m : List (D × D)) : isiD ["tuple"] (.int i) = false := rfl
@[simp] theorem x_is32 (b : Bool) (i : Int) (s : Str) (l : List D) (m : List (D × D)) : isiD ["tuple"] (.str s) = false := rfl
@[simp] theorem x_is33 (b : Bool) (i : Int) (s : Str) (l : List D) (m : List (D × D)) : isiD ["tuple"] (.list l) = false := rfl
@[simp] theorem x_is34 (b : Bool) (i : Int) (s : Str) (l : List D) (m : List (D × D)) : isiD ["tuple"] (.tuple l) = true := rfl
@[simp] theorem x_is35 (b : Bool) (i : Int) (s : Str) (l : List D) (m : List (D × D)) : isiD ["tuple"] (.dict m) = false := rfl
@[simp] theorem x_is36 (b : Bool) (i : Int) (s : Str) (l : List D) (m : List (D × D)) : isiD ["dict"] .none = false := rfl
@[simp] theorem x_is37 (b : Bool) (i : Int) (s : Str) (l : List D) (m : List (D × D)) : isiD ["dict"] (.bool b) = false := rfl
@[simp] theorem x_is38 (b : Bool) (i : Int) (s : Str) (l : List D) (m : List (D × D)) : isiD ["dict"] (.int i) = false := rfl
@[simp] theorem x_is39 (b : Bool) (i : Int) (s : Str) (l : List D) (m : List (D × D)) : isiD ["dict"] (.str s) = false := rfl
@[simp] theorem x_is40 (b : Bool) (i : Int) (s : Str) (l : List D) (m : List (D × D)) : isiD ["dict"] (.list l) = false := rfl
@[simp] theorem x_is41 (b : Bool) (i : Int) (s : Str) (l : List D) (m : List (D × D)) : isiD ["dict"] (.tuple l) = false := rfl
@[simp] theorem x_is42 (b : Bool) (i : Int) (s : Str) (l : List D) (m : List (D × D)) : isiD ["dict"] (.dict m) = true := rfl
@[simp] theorem x_is43 (b : Bool) (i : Int) (s : Str) (l : List D) (m : List (D × D)) : isiD ["tuple", "list"] .none = false := rfl
@[simp] theorem x_is44 (b : Bool) (i : Int) (s : Str) (l : List D) (m : List (D × D)) : isiD ["tuple", "list"] (.bool b) = false := rfl
@[simp] theorem x_is45 (b : Bool) (i : Int) (s : Str) (l : List D) (m : List (D × D)) : isiD ["tuple", "list"] (.int i) = false := rfl
@[simp] theorem x_is46 (b : Bool) (i : Int) (s : Str) (l : List D) (m : List (D × D)) : isiD ["tuple", "list"] (.str s) = false := rfl
@[simp] theorem x_is47 (b : Bool) (i : Int) (s : Str) (l : List D) (m : List (D × D)) : isiD ["tuple", "list"] (.list l) = true := rfl
@[simp] theorem x_is48 (b : Bool) (i : Int) (s : Str) (l : List D) (m : List (D × D)) : isiD ["tuple", "list"] (.tuple l) = true := rfl
@[simp] theorem x_is49 (b : Bool) (i : Int) (s : Str) (l : List D) (m : List (D × D)) : isiD ["tuple", "list"] (.dict m) = false := rfl
@[simp] theorem x_is50 (b : Bool) (i : Int) (s : Str) (l : List D) (m : List (D × D)) : isiD ["list", "tuple"] .none = false := rfl
@[simp] theorem x_is51 (b : Bool) (i : Int) (s : Str) (l : List D) (m : List (D × D)) : isiD ["list", "tuple"] (.bool b) = false := rfl
@[simp] theorem x_is52 (b : Bool) (i : Int) (s : Str) (l : List D) (m : List (D × D)) : isiD ["list", "tuple"] (.int i) = false := rfl
@[simp] theorem x_is53 (b : Bool) (i : Int) (s : Str) (l : List D) (m : List (D × D)) : isiD ["list", "tuple"] (.str s) = false := rfl
@[simp] theorem x_is54 (b : Bool) (i : Int) (s : Str) (l : List D) (m : List (D × D)) : isiD ["list", "tuple"] (.list l) = true := rfl
@[simp] theorem x_is55 (b : Bool) (i : Int) (s : Str) (l : List D) (m : List (D × D)) : isiD ["list", "tuple"] (.tuple l) = true := rfl
@[simp] theorem x_is56 (b : Bool) (i : Int) (s : Str) (l : List D) (m : List (D × D)) : isiD ["list", "tuple"] (.dict m) = false := rfl
@[simp] theorem x_is57 (b : Bool) (i : Int) (s : Str) (l : List D) (m : List (D × D)) : isiD ["int", "str"] .none = false := rfl
@[simp] theorem x_is58 (b : Bool) (i : Int) (s : Str) (l : List D) (m : List (D × D)) : isiD ["int", "str"] (.bool b) = true := rfl
@[simp] theorem x_is59 (b : Bool) (i : Int) (s : Str) (l : List D) (m : List (D × D)) : isiD ["int", "str"] (.int i) = true := rfl
@[simp] theorem x_is60 (b : Bool) (i : Int) (s : Str) (l : List D) (m : List (D × D)) : isiD ["int", "str"] (.str s) = true := rfl
@[simp] theorem x_is61 (b : Bool) (i : Int) (s : Str) (l : List D) (m : List (D × D)) : isiD ["int", "str"] (.list l) = false := rfl
@[simp] theorem x_is62 (b : Bool) (i : Int) (s : Str) (l : List D) (m : List (D × D)) : isiD ["int", "str"] (.tuple l) = false := rfl
@[simp] theorem x_is63 (b : Bool) (i : Int) (s : Str) (l : List D) (m : List (D × D)) : isiD ["int", "str"] (.dict m) = false := rfl
@[simp] theorem x_is64 (b : Bool) (i : Int) (s : Str) (l : List D) (m : List (D × D)) : isiD ["str", "int"] .none = false := rfl
@[simp] theorem x_is65 (b : Bool) (i : Int) (s : Str) (l : List D) (m : List (D × D)) : isiD ["str", "int"] (.bool b) = true := rfl
@[simp] theorem x_is66 (b : Bool) (i : Int) (s : Str) (l : List D) (m : List (D × D)) : isiD ["str", "int"] (.int i) = true := rfl
@[simp] theorem x_is67 (b : Bool) (i : Int) (s : Str) (l : List D) (m : List (D × D)) : isiD ["str", "int"] (.str s) = true := rfl
@[simp] theorem x_is68 (b : Bool) (i : Int) (s : Str) (l : List D) (m : List (D × D)) : isiD ["str", "int"] (.list l) = false := rfl
@[simp] theorem x_is69 (b : Bool) (i : Int) (s : Str) (l : List D) (m : List (D × D)) : isiD ["str", "int"] (.tuple l) = false := rfl
@[simp] theorem x_is70 (b : Bool) (i : Int) (s : Str) (l : List D) (m : List (D × D)) : isiD ["str", "int"] (.dict m) = false := rfl
@[simp] theorem x_is71 (b : Bool) (i : Int) (s : Str) (l : List D) (m : List (D × D)) : isiD ["list", "dict"] .none = false := rfl
@[simp] theorem x_is72 (b : Bool) (i : Int) (s : Str) (l : List D) (m : List (D × D)) : isiD ["list", "dict"] (.bool b) = false := rfl
@[simp] theorem x_is73 (b : Bool) (i : Int) (s : Str) (l : List D) (m : List (D × D)) : isiD ["list", "dict"] (.int i) = false := rfl
@[simp] theorem x_is74 (b : Bool) (i : Int) (s : Str) (l : List D) (m : List (D × D)) : isiD ["list", "dict"] (.str s) = false := rfl
@[simp] theorem x_is75 (b : Bool) (i : Int) (s : Str) (l : List D) (m : List (D × D)) : isiD ["list", "dict"] (.list l) = true := rfl
@[simp] theorem x_is76 (b : Bool) (i : Int) (s : Str) (l : List D) (m : List (D × D)) : isiD ["list", "dict"] (.tuple l) = false := rfl
@[simp] theorem x_is77 (b : Bool) (i : Int) (s : Str) (l : List D) (m : List (D × D)) : isiD ["list", "dict"] (.dict m) = true := rfl
@[simp] theorem x_is78 (b : Bool) (i : Int) (s : Str) (l : List D) (m : List (D × D)) : isiD ["tuple", "list", "dict"] .none = false := rfl
@[simp] theorem x_is79 (b : Bool) (i : Int) (s : Str) (l : List D) (m : List (D × D)) : isiD ["tuple", "list", "dict"] (.bool b) = false := rfl
@[simp] theorem x_is80 (b : Bool) (i : Int) (s : Str) (l : List D) (m : List (D × D)) : isiD ["tuple", "list", "dict"] (.int i) = false := rfl
@[simp] theorem x_is81 (b : Bool) (i : Int) (s : Str) (l : List D) (m : List (D × D)) : isiD ["tuple", "list", "dict"] (.str s) = false := rfl
@[simp] theorem x_is82 (b : Bool) (i : Int) (s : Str) (l : List D) (m : List (D × D)) : isiD ["tuple", "list", "dict"] (.list l) = true := rfl
@[simp] theorem x_is83 (b : Bool) (i : Int) (s : Str) (l : List D) (m : List (D × D)) : isiD ["tuple", "list", "dict"] (.tuple l) = true := rfl
@[simp] theorem x_is84 (b : Bool) (i : Int) (s : Str) (l : List D) (m : List (D × D)) : isiD ["tuple", "list", "dict"] (.dict m) = true := rfl
@[simp] theorem x_is85 (b : Bool) (i : Int) (s : Str) (l : List D) (m : List (D × D)) : isiD ["bool", "int"] .none = false := rfl
@[simp] theorem x_is86 (b : Bool) (i : Int) (s : Str) (l : List D) (m : List (D × D)) : isiD ["bool", "int"] (.bool b) = true := rfl
@[simp] theorem x_is87 (b : Bool) (i : Int) (s : Str) (l : List D) (m : List (D × D)) : isiD ["bool", "int"] (.int i) = true := rfl
@[simp] theorem x_is88 (b : Bool) (i : Int) (s : Str) (l : List D) (m : List (D × D)) : isiD ["bool", "int"] (.str s) = false := rfl
@[simp] theorem x_is89 (b : Bool) (i : Int) (s : Str) (l : List D) (m : List (D × D)) : isiD ["bool", "int"] (.list l) = false := rfl
@[simp] theorem x_is90 (b : Bool) (i : Int) (s : Str) (l : List D) (m : List (D × D)) : isiD ["bool", "int"] (.tuple l) = false := rfl
@[simp] theorem x_is91 (b : Bool) (i : Int) (s : Str) (l : List D) (m : List (D × D)) : isiD ["bool", "int"] (.dict m) = false := rfl
@[simp] theorem x_is92 (b : Bool) (i : Int) (s : Str) (l : List D) (m : List (D × D)) : isiD ["bool", "str"] .none = false := rfl
@[simp] theorem x_is93 (b : Bool) (i : Int) (s : Str) (l : List D) (m : List (D × D)) : isiD ["bool", "str"] (.bool b) = true := rfl
@[simp] theorem x_is94 (b : Bool) (i : Int) (s : Str) (l : List D) (m : List (D × D)) : isiD ["bool", "str"] (.int i) = false := rfl
@[simp] theorem x_is95 (b : Bool) (i : Int) (s : Str) (l : List D) (m : List (D × D)) : isiD ["bool", "str"] (.str s) = true := rfl
@[simp] theorem x_is96 (b : Bool) (i : Int) (s : Str) (l : List D) (m : List (D × D)) : isiD ["bool", "str"] (.list l) = false := rfl
@[simp] theorem x_is97 (b : Bool) (i : Int) (s : Str) (l : List D) (m : List (D × D)) : isiD ["bool", "str"] (.tuple l) = false := rfl
@[simp] theorem x_is98 (b : Bool) (i : Int) (s : Str) (l : List D) (m : List (D × D)) : isiD ["bool", "str"] (.dict m) = false := rfl
@[simp] theorem x_is99 (b : Bool) (i : Int) (s : Str) (l : List D) (m : List (D × D)) : isiD ["int", "bool"] .none = false := rfl
@[simp] theorem x_is100 (b : Bool) (i : Int) (s : Str) (l : List D) (m : List (D × D)) : isiD ["int", "bool"] (.bool b) = true := rfl
@[simp] theorem x_is101 (b : Bool) (i : Int) (s : Str) (l : List D) (m : List (D × D)) : isiD ["int", "bool"] (.int i) = true := rfl
@[simp] theorem x_is102 (b : Bool) (i : Int) (s : Str) (l : List D) (m : List (D × D)) : isiD ["int", "bool"] (.str s) = false := rfl
@[simp] theorem x_is103 (b : Bool) (i : Int) (s : Str) (l : List D) (m : List (D × D)) : isiD ["int", "bool"] (.list l) = false := rfl
@[simp] theorem x_is104 (b : Bool) (i : Int) (s : Str) (l : List D) (m : List (D × D)) : isiD ["int", "bool"] (.tuple l) = false := rfl
@[simp] theorem x_is105 (b : Bool) (i : Int) (s : Str) (l : List D) (m : List (D × D)) : isiD ["int", "bool"] (.dict m) = false := rfl
@[simp] theorem x_is106 (b : Bool) (i : Int) (s : Str) (l : List D) (m : List (D × D)) : isiD ["list", "tuple", "dict"] .none = false := rfl
@[simp] theorem x_is107 (b : Bool) (i : Int) (s : Str) (l : List D) (m : List (D × D)) : isiD ["list", "tuple", "dict"] (.bool b) = false := rfl
@[simp] theorem x_is108 (b : Bool) (i : Int) (s : Str) (l : List D) (m : List (D × D)) : isiD ["list", "tuple", "dict"] (.int i) = false := rfl
@[simp] theorem x_is109 (b : Bool) (i : Int) (s : Str) (l : List D) (m : List (D × D)) : isiD ["list", "tuple", "dict"] (.str s) = false := rfl
@[simp] theorem x_is110 (b : Bool) (i : Int) (s : Str) (l : List D) (m : List (D × D)) : isiD ["list", "tuple", "dict"] (.list l) = true := rfl
@[simp] theorem x_is111 (b : Bool) (i : Int) (s : Str) (l : List D) (m : List (D × D)) : isiD ["list", "tuple", "dict"] (.tuple l) = true := rfl
@[simp] theorem x_is112 (b : Bool) (i : Int) (s : Str) (l : List D) (m : List (D × D)) : isiD ["list", "tuple", "dict"] (.dict m) = true := rfl
@[simp] theorem x_is113 (b : Bool) (i : Int) (s : Str) (l : List D) (m : List (D × D)) : isiD ["str", "tuple"] .none = false := rfl
@[simp] theorem x_is114 (b : Bool) (i : Int) (s : Str) (l : List D) (m : List (D × D)) : isiD ["str", "tuple"] (.bool b) = false := rfl
@[simp] theorem x_is115 (b : Bool) (i : Int) (s : Str) (l : List D) (m : List (D × D)) : isiD ["str", "tuple"] (.int i) = false := rfl
@[simp] theorem x_is116 (b : Bool) (i : Int) (s : Str) (l : List D) (m : List (D × D)) : isiD ["str", "tuple"] (.str s) = true := rfl
@[simp] theorem x_is117 (b : Bool) (i : Int) (s : Str) (l : List D) (m : List (D × D)) : isiD ["str", "tuple"] (.list l) = false := rfl
@[simp] theorem x_is118 (b : Bool) (i : Int) (s : Str) (l : List D) (m : List (D × D)) : isiD ["str", "tuple"] (.tuple l) = true := rfl
@[simp] theorem x_is119 (b : Bool) (i : Int) (s : Str) (l : List D) (m : List (D × D)) : isiD ["str", "tuple"] (.dict m) = false := rfl
@[simp] theorem x_is120 (b : Bool) (i : Int) (s : Str) (l : List D) (m : List (D × D)) : isiD ["tuple", "str"] .none = false := rfl
@[simp] theorem x_is121 (b : Bool) (i : Int) (s : Str) (l : List D) (m : List (D × D)) : isiD ["tuple", "str"] (.bool b) = false := rfl
@[simp] theorem x_is122 (b : Bool) (i : Int) (s : Str) (l : List D) (m : List (D × D)) : isiD ["tuple", "str"] (.int i) = false := rfl
@[simp] theorem x_is123 (b : Bool) (i : Int) (s : Str) (l : List D) (m : List (D × D)) : isiD ["tuple", "str"] (.str s) = true := rfl
@[simp] theorem x_is124 (b : Bool) (i : Int) (s : Str) (l : List D) (m : List (D × D)) : isiD ["tuple", "str"] (.list l) = false := rfl
@[simp] theorem x_is125 (b : Bool) (i : Int) (s : Str) (l : List D) (m : List (D × D)) : isiD ["tuple", "str"] (.tuple l) = true := rfl
@[simp] theorem x_is126 (b : Bool) (i : Int) (s : Str) (l : List D) (m : List (D × D)) : isiD ["tuple", "str"] (.dict m) = false := rfl
@[simp] theorem x_eqS (a b : Str) : eqD (.str a) (.str b) = some (.v (.bool (decide (a = b)))) := by
  unfold eqD
  rw [if_pos (show (okE (.str a) && okE (.str b)) = true from rfl)]
  first | rfl | (unfold bl PyData.eqv; rfl) | (unfold bl PyData.eqv; congr 3; exact Bool.eq_iff_iff.mpr (by simp))
@[simp] theorem x_neS (a b : Str) : neD (.str a) (.str b) = some (.v (.bool (!decide (a = b)))) := by rw [x_neq _ _ rfl, x_eqS]; rfl
@[simp] theorem x_eqNI (i : Int) : eqD .none (.int i) = some (.v (.bool false)) := rfl
@[simp] theorem x_eqIN (i : Int) : eqD (.int i) .none = some (.v (.bool false)) := rfl
theorem x_inT (x : D) (ys : List D) (h : okE x = true) (h2 : noDicts ys = true) : inD x (.tuple ys) = some (.v (.bool (ys.any fun y => PyData.eqv y x))) := by
  unfold inD
  cases x <;> simp_all [bl]
@[simp] theorem x_notIn (x y : D) : notInD x y = match inD x y with
  | some (.v (.bool b)) => bl (!b)
  | _ => none := rfl
@[simp] theorem x_bl (b : Bool) : bl b = some (.v (.bool b)) := rfl
theorem x_maxM (i j : Int) : maxD [.int i, .int j] = some (.v (.int (max i j))) := by
  rw [x_maxI]
  congr 3
  split <;> omega
theorem x_minM (i j : Int) : minD [.int i, .int j] = some (.v (.int (min i j))) := by
  rw [x_minI]
  congr 3
  split <;> omega
theorem cut_drop (xs : List D) (k : Nat) : cut xs (some (k : Int)) none = xs.drop k := by
  unfold cut
  rw [HT.sIx_none, HT.sIx_nat]
  by_cases h : k ≤ xs.length
  · rw [Nat.min_eq_left h, List.take_of_length_le (by rw [List.length_drop]; omega)]
  · rw [Nat.min_eq_right (by omega), List.drop_length, List.take_nil, List.drop_of_length_le (by omega)]
theorem cut_both (xs : List D) (a b : Nat) : cut xs (some (a : Int)) (some (b : Int)) = (xs.take b).drop a := by
  unfold cut
  rw [HT.sIx_nat, HT.sIx_nat, List.drop_take]
  by_cases h : a ≤ xs.length
  · rw [Nat.min_eq_left h, List.take_eq_take_iff, List.length_drop]
    omega
  · rw [show min a xs.length = xs.length by omega, List.drop_length, List.drop_of_length_le (show xs.length ≤ a by omega), List.take_nil, List.take_nil]
theorem cut_last (xs : List D) : cut xs none (some (-1)) = xs.dropLast := by
  unfold cut
  rw [HT.sIx_none, List.drop_zero, Nat.sub_zero, List.dropLast_eq_take]
  congr 1
  unfold HT.sIx
  simp
  omega
@[simp] theorem x_cutT0 (xs : List D) : cut xs none (some 0) = xs.take 0 := cut_take xs 0
@[simp] theorem x_cutD0 (xs : List D) : cut xs (some 0) none = xs.drop 0 := cut_drop xs 0
@[simp] theorem x_cutT1 (xs : List D) : cut xs none (some 1) = xs.take 1 := cut_take xs 1
@[simp] theorem x_cutD1 (xs : List D) : cut xs (some 1) none = xs.drop 1 := cut_drop xs 1
@[simp] theorem x_cutT2 (xs : List D) : cut xs none (some 2) = xs.take 2 := cut_take xs 2
@[simp] theorem x_cutD2 (xs : List D) : cut xs (some 2) none = xs.drop 2 := cut_drop xs 2
@[simp] theorem x_cutT3 (xs : List D) : cut xs none (some 3) = xs.take 3 := cut_take xs 3
@[simp] theorem x_cutD3 (xs : List D) : cut xs (some 3) none = xs.drop 3 := cut_drop xs 3
@[simp] theorem x_cutT4 (xs : List D) : cut xs none (some 4) = xs.take 4 := cut_take xs 4
@[simp] theorem x_cutD4 (xs : List D) : cut xs (some 4) none = xs.drop 4 := cut_drop xs 4
@[simp] theorem x_cutT5 (xs : List D) : cut xs none (some 5) = xs.take 5 := cut_take xs 5
@[simp] theorem x_cutD5 (xs : List D) : cut xs (some 5) none = xs.drop 5 := cut_drop xs 5
@[simp] theorem x_cutT6 (xs : List D) : cut xs none (some 6) = xs.take 6 := cut_take xs 6
@[simp] theorem x_cutD6 (xs : List D) : cut xs (some 6) none = xs.drop 6 := cut_drop xs 6
@[simp] theorem x_cutT7 (xs : List D) : cut xs none (some 7) = xs.take 7 := cut_take xs 7
@[simp] theorem x_cutD7 (xs : List D) : cut xs (some 7) none = xs.drop 7 := cut_drop xs 7
@[simp] theorem x_cutT8 (xs : List D) : cut xs none (some 8) = xs.take 8 := cut_take xs 8
@[simp] theorem x_cutD8 (xs : List D) : cut xs (some 8) none = xs.drop 8 := cut_drop xs 8
@[simp] theorem x_cutT9 (xs : List D) : cut xs none (some 9) = xs.take 9 := cut_take xs 9
@[simp] theorem x_cutD9 (xs : List D) : cut xs (some 9) none = xs.drop 9 := cut_drop xs 9
@[simp] theorem x_cutT10 (xs : List D) : cut xs none (some 10) = xs.take 10 := cut_take xs 10
@[simp] theorem x_cutD10 (xs : List D) : cut xs (some 10) none = xs.drop 10 := cut_drop xs 10
@[simp] theorem x_cutT11 (xs : List D) : cut xs none (some 11) = xs.take 11 := cut_take xs 11
@[simp] theorem x_cutD11 (xs : List D) : cut xs (some 11) none = xs.drop 11 := cut_drop xs 11
@[simp] theorem x_cutT12 (xs : List D) : cut xs none (some 12) = xs.take 12 := cut_take xs 12
@[simp] theorem x_cutD12 (xs : List D) : cut xs (some 12) none = xs.drop 12 := cut_drop xs 12
@[simp] theorem x_cutM (xs : List D) : cut xs none (some (-1)) = xs.dropLast := cut_last xs
@[simp] theorem x_addTs {xs ys : List D} (h : xs.length + ys.length ≤ 16777216) : addD (.tuple xs) (.tuple ys) = some (.v (.tuple (xs ++ ys))) := x_addT h
@[simp] theorem x_addLs {xs ys : List D} (h : xs.length + ys.length ≤ 16777216) : addD (.list xs) (.list ys) = some (.o (.list (xs ++ ys))) := x_addL h
@[simp] theorem x_szb {n : Nat} (h : n ≤ 16777216) : szb n = true := szb_of h
@[simp] theorem x_eqE (ds : List D) : eqD (.tuple ds) (.tuple []) = some (.v (.bool ds.isEmpty)) := by
  unfold eqD
  split
  · cases ds with
    | nil => rfl
    | cons d ds => show bl (PyData.eqv (.tuple (d :: ds)) (.tuple [])) = _; unfold PyData.eqv PyData.eqvAll; rfl
  · rfl
@[simp] theorem x_strI {i : Int} (h : i.natAbs.log2 < 1920) : strD [.int i] = some (.v (.str (toString i))) := if_pos (decide_eq_true h)
@[simp] theorem x_eqvS (a b : Str) : PyData.eqv (.str a) (.str b) = decide (a = b) := by
  rw [show PyData.eqv (.str a) (.str b) = (a == b) by unfold PyData.eqv; rfl]
  exact Bool.eq_iff_iff.mpr (by simp)
@[simp] theorem x_eApp (i : Nat) (f : ME) (ρ : Rho) : eApp i f ρ = match slot ρ i with
  | some (.list _) => (f ρ).bind fun r => match r.2[i]? with
    | some (some (.o (.list ds))) => if decide (ds.length < 16777216) then some (.v .none, r.2.set i (some (.o (.list (ds ++ [r.1.d]))))) else none
    | _ => none
  | _ => none := rfl
@[simp] theorem x_ePopAt (i : Nat) (f : ME) (ρ : Rho) : ePopAt i f ρ = match slot ρ i with
  | some (.list _) => (f ρ).bind fun r => (asI r.1).bind fun j => match r.2[i]? with
    | some (some (.o (.list ds))) => if in62 j then (seqIndex? j ds.length).bind fun k => ds[k]?.bind fun d => some (.v d, r.2.set i (some (.o (.list (ds.eraseIdx k))))) else none
    | _ => none
  | _ => none := rfl
theorem x_nodup2 {i j : Nat} (h : i ≠ j) : nodupN [i, j] = true := by
  simp [nodupN, h]
@[simp] theorem x_tupL (ds : List D) : tupleD [.list ds] = some (.v (.tuple ds)) := rfl
@[simp] theorem x_tupT (ds : List D) : tupleD [.tuple ds] = some (.v (.tuple ds)) := rfl
@[simp] theorem x_lstL (ds : List D) : listD [.list ds] = some (.o (.list ds)) := rfl
@[simp] theorem x_lstT (ds : List D) : listD [.tuple ds] = some (.o (.list ds)) := rfl
@[simp] theorem x_addS {a b : Str} (h : a.length + b.length ≤ 16777216) : addD (.str a) (.str b) = some (.v (.str (a ++ b))) := by
  show (if szb (a.length + b.length) then some (RV.v (.str (a ++ b))) else none) = _
  rw [szb_of h]; rfl
@[simp] theorem x_ePop (i : Nat) (ρ : Rho) : ePop i ρ = match ρ[i]? with
  | some (some (.o (.list ds))) => (lastD ds).bind fun d => some (.v d, ρ.set i (some (.o (.list ds.dropLast))))
  | _ => none := rfl
theorem lastD_add (ds : List D) (d : D) : lastD (ds ++ [d]) = some d := by
  unfold lastD
  simp
@[simp] theorem x_eGet2 (i : Nat) (fk fx : ME) (ρ : Rho) : eGet2 i fk fx ρ = match slot ρ i with
  | some (.dict d0) => (fk ρ).bind fun r => (asV r.1).bind fun k => (fx r.2).bind fun s => match slot s.2 i with
    | some (.dict ds) => if isKD k && (!isFn d0 && !isFn ds) then some (.v (getOr ds k s.1.d), s.2) else none
    | _ => none
  | _ => none := rfl
@[simp] theorem x_eGet1 (i : Nat) (fk : ME) (ρ : Rho) : eGet1 i fk ρ = match slot ρ i with
  | some (.dict d0) => (fk ρ).bind fun r => (asV r.1).bind fun k => match slot r.2 i with
    | some (.dict ds) => if isKD k && (!isFn d0 && !isFn ds) then some (.v (getOr ds k .none), r.2) else none
    | _ => none
  | _ => none := rfl
@[simp] theorem x_eIdx (i : Nat) (f : ME) (ρ : Rho) : eIdx i f ρ = match slot ρ i with
  | some (.list _) => (f ρ).bind fun r => (valV r.1).bind fun k => match slot r.2 i with
    | some (.list ds) => if okE k && okE (.list ds) then (fstEq ds k).bind fun j => some (.v (.int (j : Nat)), r.2) else none
    | _ => none
  | _ => none := rfl
@[simp] theorem x_valV (d : D) : valV (.v d) = some d := rfl
@[simp] theorem x_isKDs (s : Str) : isKD (.str s) = true := rfl
@[simp] theorem x_isKDi (i : Int) : isKD (.int i) = true := rfl
@[simp] theorem x_neB (a b : Bool) : neD (.bool a) (.bool b) = some (.v (.bool (!decide (a = b)))) := by cases a <;> cases b <;> rfl
@[simp] theorem x_eMt (g : D → List D → Option RV) (fo : MO) (fs : MOs) (ρ : Rho) : eMt g fo fs ρ = (fo ρ).bind fun r => (r.1.get r.2).bind fun x0 => (fs r.2).bind fun s => (r.1.get s.2).bind fun x => (getAll s.2 s.1).bind fun ys =>
  if tyD x0 = tyD x then (g x ys).bind fun z => some (z, s.2) else none := rfl
theorem x_lstD (ds : List (D × D)) (h : isFn ds = false) : listD [.dict ds] = some (.o (.list (ds.map (·.1)))) := by
  show (if isFn ds then none else some (RV.o (.list (ds.map (·.1))))) = _
  rw [h]; rfl
theorem x_lenDc (ds : List (D × D)) (h : isFn ds = false) : lenD [.dict ds] = some (.v (.int ds.length)) := by
  show (if isFn ds then none else some (RV.v (.int ds.length))) = _
  rw [h]; rfl
theorem x_setDc {ds : List (D × D)} {k x : D} (h : isKD k = true) (hl : ds.length < 16777216) : setD (.dict ds) k x = some (.dict (setK ds k x)) := by
  show (if isKD k && decide (ds.length < 16777216) then some (PyData.dict (setK ds k x)) else none) = _
  rw [h, decide_eq_true hl]; rfl
end Z
namespace Z
open PySem PySem.Spec L2
open PyProof.Rows hiding St
open PySem.W (Frag)

/-! ## the __init__ of an own error: super().__init__(), then self.FIELD = x -/
abbrev veB : List Value := [.type "ValueError", .type "Exception", .type "BaseException", .type "object"]
/-- what the def's text is -/
structure InitT (st : Stmt) (fld gv : Str) : Prop where
  body : ∃ p0 p1 p2 p3 p4 q0 q1 q2 q3, defBody st = [.Expr (.Call (.Attribute (.Call (.Name "super" p0) [] [] p1) "__init__" p2) [] [] p3) p4, .Assign [.Attribute (.Name "self" q0) fld q1] (.Name gv q2) q3] ∧ (p2.endLine == p3.line) = true
  kind : (defScope st).kind = .function
  co : (defScope st).isCoroutine = false
  gen : (defScope st).isGenerator = false
  sup : (defScope st).names.lookup ("super" : Str) = some .globalImplicit
  cls : (defScope st).names.lookup ("__class__" : Str) = some .free
  slf : (defScope st).names.lookup ("self" : Str) = some .local
  giv : (defScope st).names.lookup gv = some .local
  noc : ∀ y ∈ (defScope st).names, y.2 ≠ .cell
  onef : ∀ y ∈ (defScope st).names, y.2 = .free → y.1 = "__class__"
  par : ∃ ar, ((defArgs st).posonlyargs ++ (defArgs st).args).head? = some ar ∧ ar.arg = "self"
  ne : ("self" : Str) ≠ gv
  dbg : (gv == ("__debug__" : Str)) = false
  cdb : (gv == ("__classdict__" : Str)) = false
/-- what the written part says of the class and of its __init__ -/
structure InitK (P : Program) (K : Frag) (C fI cc cda : Addr) (qual : Str) (st : Stmt) (fld : Str) (fd : FuncData) : Prop where
  oex : OexC K C
  ei : PySem.W.excInitIn K C veB "ValueError.__new__" = true
  nof : PySem.W.findIn K (.ref C) fld = some none
  sup : PySem.W.ks_superIn K C C "__init__" = some (some (.builtin "ValueError.__init__"))
  subB : PySem.W.subIn K (.ref C) (.type "ValueError") = some true
  subC : PySem.W.mroIn K C (.ref C) = some true
  stat : PySem.W.nsIn K cStatics "thirdparty.any" = some none
  fn : ∃ oc od osl dV kV doc pm an ct, fd = PySem.W.ksFn "__init__" qual (defArgs st) (defBody st) (defScope st) dV kV doc pm an (.ref cda) ct cc ∧ K.lookup fI = some ⟨oc, od, .func fd, osl⟩
  code : PySem.W.codeIn K (.ref cda) qual = true
  file : ∃ cl d vs sl tf f, K.lookup cda = some ⟨cl, d, .fields vs, sl⟩ ∧ vs[2]? = some (.str f tf) ∧ ((P.main.file : Str) == f) = true
  cell : ∃ cl d sl, K.lookup cc = some ⟨cl, d, .cell (some (.ref C)), sl⟩
  top : (P.main.scope.names.lookup ("super" : Str)).isSome = false
def initSp (C : Addr) (fld : Str) : Sp := fun vs H Q E => ∃ a y, vs = [.ref a, y] ∧ H a = some (exo a C none) ∧ ∀ dx, H dx = none → dx ≠ a → Q .non (upd (upd H dx (exd dx [(fld, y)])) a (exo a C (some dx)))

theorem call_line {o : Expr} {m : Str} {p2 p3 : Pos} {env : Env} (hline : (p2.endLine == p3.line) = true) : eval (.Call (.Attribute o m p2) [] [] p3) env = (do
      let ov ← attributeBase o m env (eval o env)
      standAt p2.atName
      let (f, first) ← holding [ov] (getMethod ov m (do return (← importBound o env).getD true))
      callWith p3 f first (backTo p3 (starEach [] env)) []) := by
  have e : ∀ ov, methodCall o m p2 p3 env ov 0 [] [] = (do
      let (f, first) ← holding [ov] (getMethod ov m (do return (← importBound o env).getD true))
      callWith p3 f first [] []) := fun ov => by
    have e1 : methodCallForm 0 [] [] = true := by rfl
    unfold methodCall
    rw [e1]
    have e2 : methodCallPos true o env p2 p3 = pure p3 := by
      unfold methodCallPos
      rw [hline]; rfl
    rw [e2]
    rfl
  show (do
    let ov ← attributeBase o m env (eval o env)
    standAt p2.atName
    methodCall o m p2 p3 env ov 0 [] []) = _
  simp only [e]
  rfl
/-- the built-in __init__, bound to the error that is being made, is called -/
theorem mw_ok {X : Cx} {pins : List (Addr × Obj)} {σ : L2.St} {H : Hp} {s : Shared} {a C u : Addr} {A : Around} {E : Value → Shared → Prop} {Q : Value → Shared → Prop} (T : OexC X.K C) (I : Inv X pins σ H s) (e : H a = some (exo a C none))
    (hu : s.heap.get? u = some (PySem.W.kxs_mw "ValueError.__init__" a)) (h : ∀ s', Inv X pins σ H s' → Q .none s') : wpAny (model X.prog X.w) A (call (.ref u) []) Q E s := by
  obtain ⟨nm, qc, Nn, bs, bm, sn, sub, ab, col, dd, k0, k1, k2, k3, k5, hC, hbm⟩ := T.cls
  obtain ⟨t1, ho⟩ := exo_at I.hok e
  have hC' := I.kIn _ _ hC
  obtain ⟨hp, g, d, t, os⟩ := s
  have FB := PySem.F.excBase_ValueError
  refine wpAny_call (codeAny_of_tree ?_)
  show wpAny _ _ (callAny (.ref u) ⟨[], []⟩) _ _ _
  unfold callAny
  refine wpAny_bind (wpAny_load hu ?_)
  dsimp only
  refine PySem.W.KFB.if_so (by decide) ?_
  refine wpAny_bind (PySem.W.check_bound_init FB.toExcCallFacts hC' ho rfl ?_)
  refine wpAny_bind (wpAny_pure (wpAny_pure ⟨plainId_quiet FB.init.plain _, codeAny_builtin FB.initEntry ?_⟩))
  refine PySem.W.exc_init_tree (cls := .ref C) (t0 := t1) (dv := none) (c2 := .none) (c3 := .none) (b4 := .bool false) ho (by rw [sizeLine_eq]; simp) fun h' k hx _ => ?_
  have J := I.write (t' := t) (x := a) (e := a) (o := exo a C none) (by rw [e]; exact True.intro) (.inl rfl) k ⟨_, hx⟩ (exo_ok hx)
  have eu : upd H a (exo a C none) = H := by
    funext b
    by_cases hb : b = a
    · rw [hb, upd_same, e]
    · rw [upd_ne hb]
  rw [eu] at J
  exact h _ J
section
variable {P : Program} {w : World} {K : Frag} {mg : Str → Option Value} {base : Heap} {k : Nat} {C fI cc cda : Addr} {qual fld gv : Str} {st : Stmt} {fd : FuncData}
/-- the context of its body -/
def cxI (P : Program) (w : World) (K : Frag) (mg : Str → Option Value) (base : Heap) (gv : Str) (fd : FuncData) (fI : Addr) (A : Around) (outer : List Env) (s : Shared) (H : Hp) : Cx where
  prog := P
  w := w
  K := K
  mg := mg
  base := base
  A := A.deeper (callEnv fd s.heap.objs.size fI)
  N := ["self", gv]
  s_0 := s
  H_0 := H
  env := callEnv fd s.heap.objs.size fI
  outer := outer
  stack := callEnv fd s.heap.objs.size fI :: outer
  ex := []
  calm := true
  fn := fun x => !(x == ("__class__" : Str))
  pn := []
  xe := fun _ _ => False
theorem look1 {cc c : Addr} {x : Str} (h : [(("__class__" : Str), cc)].lookup x = some c) : x = "__class__" ∧ c = cc := by
  simp only [List.lookup] at h
  split at h
  · rename_i e; cases h; exact ⟨by simpa using e, rfl⟩
  · cases h
theorem init_fn (T : InitT st fld gv) (F : InitK P K C fI cc cda qual st fld fd) (hsup : mg "super" = none) : FnOk P w K mg base CX0 (k + 1) fI fd ["self", gv] (initSp C fld) := by
  obtain ⟨oc, od, osl, dV, kV, doc, pm, an, ct, hfd, lk⟩ := F.fn
  obtain ⟨ccl, ccd, vs2, csl, tf, fl, hcode, hvs, hfile⟩ := F.file
  obtain ⟨ecl, ecd, esl, hcell⟩ := F.cell
  obtain ⟨p0, p1, p2, p3, p4, q0, q1, q2, q3, hbody, hline⟩ := T.body
  obtain ⟨ar, har, hself⟩ := T.par
  refine ⟨fun vs H Q E h => ?_, fun A outer s H args us vs Q E hr e0 hb r hsp => ?_⟩
  · obtain ⟨a, y, rfl, _⟩ := h
    rfl
  obtain ⟨a, y, rfl, ha, hq⟩ := hsp
  cases r with
  | @cons _ u0 _ ur r1 r' =>
  cases r' with
  | @cons _ u _ ur2 r2 r'' =>
  cases r''
  obtain rfl : u0 = Value.ref a := r1
  have KX : K.In s.heap := e0.mod.kin.keeps fun b o e => (e0.bs b o e).1
  have lim : s.heap.NoLimit := e0.mod.nolimit.keeps fun b o e => (e0.bs b o e).1
  subst hfd
  generalize hfd : PySem.W.ksFn "__init__" qual (defArgs st) (defBody st) (defScope st) dV kV doc pm an (.ref cda) ct cc = fd at *
  have fsc : fd.scope = defScope st := by rw [← hfd]
  have fcl : fd.closure = [(("__class__" : Str), cc)] := by rw [← hfd]
  have fbo : fd.body = .stmts (defBody st) := by rw [← hfd]
  have fpa : fd.params = defArgs st := by rw [← hfd]
  have fco : fd.code = .ref cda := by rw [← hfd]
  have fqu : fd.qualname = qual := by rw [← hfd]
  have fgl : fd.globals = mainGlobals := by rw [← hfd]
  have fbl : fd.builtins = builtinsNs := by rw [← hfd]
  clear hfd
  refine PySem.ks_codeAny_call_defAt (fd := fd) (body := defBody st) (binds := [("self", .ref a), (gv, u)]) hr.depth (KX _ _ lk) rfl lim (by rw [fco, fqu]; exact PySem.W.codeRec_of KX F.code) fbo hb (by rw [fsc]; exact T.noc) ?_ (fun h0 hns hk => ?_) (by rw [fsc]; exact T.co) (by rw [fsc]; exact T.gen) (by rw [fsc]; exact T.kind)
  · intro x hx
    rw [fsc]
    simp only [List.mem_cons, List.not_mem_nil, or_false] at hx
    rcases hx with rfl | rfl
    · exact T.slf
    · exact T.giv
  have S : ∀ x, (callEnv fd s.heap.objs.size fI).kindOf x = (defScope st).names.lookup x := fun x => by
    show fd.scope.names.lookup x = _
    rw [fsc]
  have cl : (callEnv fd s.heap.objs.size fI).cells = [(("__class__" : Str), cc)] := fcl
  have nC : H cc = none := (e0.bs cc _ (e0.mod.kin _ _ hcell)).2
  have nsH : H s.heap.objs.size = none := e0.hok.fresh (Nat.le_refl _)
  have I : Inv (cxI P w K mg base gv fd fI A outer s H) [] [some (.ref a), some y] H { s with heap := h0, toks := s.toks + 2 } := by
    refine ⟨⟨e0.mod, by show fd.scope.kind = _; rw [fsc]; exact T.kind, fgl, fbl, Nat.le_refl _, fun x z c h1 h2 => ?_, fun x hx => ?_, fun x c h1 h2 => ?_, fun _ => hr.hd, Around.frames_deeper e0.frames, .inr ⟨rfl, rfl⟩, fun b z => absurd z (by show b ∉ ([] : List Addr); simp), e0.bs, e0.bsz, fun b _ _ => by show b ∉ ([] : List Addr); simp, fun b z => absurd z (by show b ∉ ([] : List Addr); simp), e0.funs, e0.frf⟩,
      rfl, e0.bare, Un.kept hk, ⟨_, hns, fun i x v h1 h2 h3 => ?_⟩, fun x c h => ?_, nsH, fun x c h => ?_, fun p hp => absurd (show p ∈ ([] : List (Addr × Obj)) from hp) (by simp), e0.hok.kept hk, rfl⟩
    · rw [show (cxI P w K mg base gv fd fI A outer s H).env.cells = _ from cl] at h1 h2
      exact (look1 h1).1.trans (look1 h2).1.symm
    · have hx : (callEnv fd s.heap.objs.size fI).kindOf x = some .cell ∨ (callEnv fd s.heap.objs.size fI).kindOf x = some .free := hx
      rw [S] at hx
      rcases hx with hx | hx
      · exact absurd rfl (T.noc _ (PySem.mem_of_lookup hx))
      · have e := T.onef _ (PySem.mem_of_lookup hx) rfl
        have e : x = "__class__" := e
        subst e
        exact ⟨cc, by rw [show (cxI P w K mg base gv fd fI A outer s H).env.cells = _ from cl]; rfl⟩
    · rw [show (cxI P w K mg base gv fd fI A outer s H).env.cells = _ from cl] at h2
      rw [(look1 h2).1] at h1
      cases h1
    · have hx : x = "self" ∧ v = .ref a ∨ x = gv ∧ v = y := by
        match i with
        | 0 =>
          cases h1; cases h2; exact .inl ⟨rfl, rfl⟩
        | 1 =>
          cases h1; cases h2; exact .inr ⟨rfl, rfl⟩
        | i + 2 => cases h1
      rcases hx with ⟨e1, e2⟩ | ⟨e1, e2⟩
      · subst e1 e2
        refine ⟨.ref a, rfl, .inl ⟨(S _).trans T.slf, ?_⟩⟩
        show List.lookup ("self" : Str) [(gv, u), (("self" : Str), Value.ref a)] = _
        have e : (("self" : Str) == gv) = false := by simpa using T.ne
        simp [List.lookup, e]
      · subst e1 e2
        refine ⟨u, r2, .inl ⟨(S _).trans T.giv, ?_⟩⟩
        show List.lookup x [(x, u), (("self" : Str), Value.ref a)] = _
        simp [List.lookup]
    · rw [show (cxI P w K mg base gv fd fI A outer s H).env.cells = _ from cl] at h
      rw [(look1 h).2]
      exact ⟨_, _, hk _ _ (KX _ _ hcell), rfl⟩
    · rw [show (cxI P w K mg base gv fd fI A outer s H).env.cells = _ from cl] at h
      rw [(look1 h).2]
      exact nC
  obtain ⟨nm, qc, Nn, bs, bm, sn, sub, ab, col, dd, k0, k1, k2, k3, k5, hC, hbm⟩ := F.oex.cls
  obtain ⟨t1, hox⟩ := exo_at I.hok ha
  have hCh : h0.get? C = some _ := hk _ _ (KX _ _ hC)
  have X0 : K.In h0 := fun b o e => hk b o (KX b o e)
  have hxC : a ≠ C := fun e => by
    rw [e, hCh] at hox
    cases hox
  obtain ⟨cdC, hcd1, hcd2⟩ : ∃ cd : ClassData, PySem.W.clsIn K C = some cd ∧ (excClassObj nm qc C Nn bs bm true sn sub ab col dd k0 k1 k2 k3 k5 "ValueError.__new__").data = .cls cd := ⟨_, by unfold PySem.W.clsIn; rw [hC], rfl⟩
  rw [hbody]
  refine PySem.ks_wpAt_execs_cons (PySem.ks_wpAt_Expr_any (PySem.ks_wpAt_MethodCall (PySem.ks_wpAt_super_base (env := callEnv fd s.heap.objs.size fI) ((S _).trans T.sup) ((S _).trans T.cls) (by decide) rfl (hk _ _ (KX _ _ lk)) rfl (by rw [fpa]; exact har) fco (hk _ _ (KX _ _ hcode)) rfl hvs hfile F.top ?_) (call_line hline)) (by unfold interactive; rw [show (callEnv fd s.heap.objs.size fI).scope = defScope st from fsc, T.kind]; rfl))
  obtain ⟨mb, hmb1, hmb2⟩ := e0.mod.blt
  have bk : ∀ b o, base.get? b = some o → h0.get? b = some o := fun b o e => hk b o (e0.bs b o e).1
  refine PySem.W.ks_loadName_global (by show fd.scope.kind = _; rw [fsc]; exact T.kind) ((S _).trans T.sup) (Calls.loadGlobal_builtin (v := .type "super") (by rw [show (callEnv fd s.heap.objs.size fI).globals = mainGlobals from fgl]; exact e0.mod.glob.keeps bk) hsup (by rw [show (callEnv fd s.heap.objs.size fI).builtins = builtinsNs from fbl]; exact hmb1.keeps bk) ((hmb2 _ (by decide)).trans (by decide +kernel)) ⟨rfl, ?_⟩)
  refine wpAny_loadName_free (by show fd.scope.kind = _; rw [fsc]; exact T.kind) ((S _).trans T.cls) (by rw [cl]; rfl) ⟨_, hk _ _ (KX _ _ hcell), rfl⟩ ?_
  refine wpAny_loadName_local (v := .ref a) (by show fd.scope.kind = _; rw [fsc]; exact T.kind) (by rw [hself]; exact (S _).trans T.slf) hns ?_ ?_
  · rw [hself]
    show List.lookup ("self" : Str) [(gv, u), (("self" : Str), Value.ref a)] = _
    have e : (("self" : Str) == gv) = false := by simpa using T.ne
    simp [List.lookup, e]
  refine PySem.ks_wpAny_isType_cls hCh hcd2 ⟨rfl, ?_⟩
  refine PySem.ks_wpAny_call_super hCh hcd2 hox rfl (fun c e => by cases e) (PySem.W.looks_mroIn X0 F.subC) (fun h1 e1 k1 => ?_)
  have X1 : K.In h1 := fun b o e => k1 b o (X0 b o e)
  have hI1 : PySem.W.Looks (model P w) h1 (isInstance (.ref a) (.type "ValueError")) true := PySem.W.Looks.andThen (a := Value.ref C) (fun A Q E s k q => wpAny_typeOf_ref (k _ _ (k1 _ _ hox)) q) (PySem.W.looks_subIn X1 F.subB)
  have hmro : PySem.W.Looks (model P w) h1 (mroOf (.ref C)) cdC.mro := fun A Q E s k q => wpAny_bind ((PySem.W.looks_clsIn X1 hcd1) A _ E s k (wpAny_pure q))
  have hsu := F.sup
  unfold PySem.W.ks_superIn at hsu
  rw [hcd1] at hsu
  refine PySem.W.kxs_getMethod PySem.W.kxs_ValueError e1 (PySem.W.looks_opaque X1 F.stat) hmro rfl X1 hsu hI1 hxC (by decide) ?_
  have hu : (h1.push (PySem.W.kxs_mw "ValueError.__init__" a)).get? h1.objs.size = some (PySem.W.kxs_mw "ValueError.__init__" a) := Heap.get?_push_size h1 rfl
  have k2 : ∀ b o, h1.get? b = some o → (h1.push (PySem.W.kxs_mw "ValueError.__init__" a)).get? b = some o := fun b o e => Heap.get?_push_of_some _ e
  have ne1 : h1.objs.size ≠ a := fun z => absurd (Heap.lt_size (k1 _ _ hox)) (by rw [z]; exact Nat.lt_irrefl _)
  refine PySem.W.kxs_callWith (i := "ValueError.__init__") (x := a) rfl (evalArgs_empty ⟨hu, ?_⟩)
  have I1 := I.kept (h' := h1.push (PySem.W.kxs_mw "ValueError.__init__" a)) (t' := s.toks + 2 + 1) fun b o e => k2 _ _ (k1 b o e)
  refine mw_ok F.oex I1 ha hu fun s' J => ?_
  have hself' : PE (cxI P w K mg base gv fd fI A outer s H) (.Name "self" q0) (tVar 0) := pe_var (X := cxI P w K mg base gv fd fI A outer s H) rfl (.inl ((S _).trans T.slf))
  have hgv' : PE (cxI P w K mg base gv fd fI A outer s H) (.Name gv q2) (tVar 1) := pe_var (X := cxI P w K mg base gv fd fI A outer s H) rfl (.inl ((S _).trans T.giv)) T.dbg T.cdb
  have hst := pss_cons (ps_ost (p' := q1) (f := fld) (pos := q3) hself' hgv') (pss_nil (X := cxI P w K mg base gv fd fI A outer s H))
  refine wpAt_of_wpAny (wpAny_mono (hst.run [] s' _ H ⟨fun σ' H' => Q .non H', fun _ _ => False, fun _ _ => False, fun _ _ => False⟩ J ?_) (fun fl s2 hs => ?_) fun _ _ z => z.elim)
  · exact ⟨y, rfl, .ref a, rfl, a, C, rfl, F.oex, F.nof, .inl ⟨ha, fun dx n ne => hq dx n ne⟩⟩
  · cases fl with
    | next =>
      obtain ⟨σ2, H2, J2, q⟩ := hs
      exact ⟨.non, H2, J2.os, J2.bare, J2.base, J2.hok, rfl, q⟩
    | brk =>
      obtain ⟨_, _, _, q⟩ := hs
      exact q.elim
    | cont =>
      obtain ⟨_, _, _, q⟩ := hs
      exact q.elim
    | ret u =>
      obtain ⟨_, _, _, _, _, q⟩ := hs
      exact q.elim
end
end Z
namespace Z
open PySem PySem.Spec L2
open PyProof.Rows hiding St

/-! ## try: .., where the first clause (with a name) takes what is raised; the further clauses are never looked at -/
/-- what is wanted of an error that the body lets out -/
def wOne (K : PySem.W.Frag) (c : Value) (i : Nat) (ts : Addr → Value → Option Addr → TS) (D : Ends) : WX := fun cls d σ H => PySem.W.exmOne K cls c = some true ∧
  ∀ a, H a = none → ts a cls d ⟨fun σ' H' => D.nx (σ'.set i none) H', D.rt, fun σ' H' => D.bk (σ'.set i none) H', fun σ' H' => D.ct (σ'.set i none) H'⟩ (σ.set i (some (.ref a))) H
section
variable {X : Cx} {x n : Str} {c : Value} {i : Nat} {body rest : List Stmt} {st0 : Stmt} {more : List ExceptHandler} {q1 q2 q3 : Pos} {tb : WX → TS} {ts : Addr → Value → Option Addr → TS} {pins : List (Addr × Obj)} {σ : L2.St} {H : Hp} {s : Shared} {D : Ends}
theorem sp_same {pn : List (Addr × Obj)} {xe : Value → Shared → Prop} {pp : List (Addr × Obj)} {fl : Flow} (ok : X.Ok) (h : SP (X.tr (X.pn ++ pins) xe) pp D fl s) : SP X pins D fl s := by
  cases fl with
  | ret u => exact let ⟨v, σ1, H1, J, r, q⟩ := h; ⟨v, σ1, H1, J.ofTry ok, r, q⟩
  | next => exact let ⟨σ1, H1, J, q⟩ := h; ⟨σ1, H1, J.ofTry ok, q⟩
  | brk => exact let ⟨σ1, H1, J, q⟩ := h; ⟨σ1, H1, J.ofTry ok, q⟩
  | cont => exact let ⟨σ1, H1, J, q⟩ := h; ⟨σ1, H1, J.ofTry ok, q⟩
/-- the suite's end: the name goes -/
theorem sp_gone {a : Addr} {o : Obj} {fl : Flow} {pos : Pos} {E : Value → Shared → Prop} (ok : X.Ok) (hN : X.N.Nodup) (hi : X.N[i]? = some n) (hl : X.env.kindOf n = some .local)
    (h : SP (X.suite a ((a, o) :: (X.pn ++ pins))) [] ⟨fun σ' H' => D.nx (σ'.set i none) H', D.rt, fun σ' H' => D.bk (σ'.set i none) H', fun σ' H' => D.ct (σ'.set i none) H'⟩ fl s) :
    wpAny (model X.prog X.w) X.A (do bindName X.env n .none; unbindBehindTheSuite X.env n pos) (fun _ s7 => SP X pins D fl s7) E s := by
  cases fl with
  | ret u => exact let ⟨v, σ1, H1, J, r, q⟩ := h; gone_ok (J.unsuite ok) hN hi hl fun s7 J7 => ⟨v, _, H1, J7, r, q⟩
  | next => exact let ⟨σ1, H1, J, q⟩ := h; gone_ok (J.unsuite ok) hN hi hl fun s7 J7 => ⟨_, H1, J7, q⟩
  | brk => exact let ⟨σ1, H1, J, q⟩ := h; gone_ok (J.unsuite ok) hN hi hl fun s7 J7 => ⟨_, H1, J7, q⟩
  | cont => exact let ⟨σ1, H1, J, q⟩ := h; gone_ok (J.unsuite ok) hN hi hl fun s7 J7 => ⟨_, H1, J7, q⟩
theorem ps_try1 (hs : X.stack = X.env :: X.outer) (hf : X.env.frame = some X.env.locals) (hN : X.N.Nodup) (hi : X.N[i]? = some n) (hl : X.env.kindOf n = some .local) (hc : Names X x c)
    (hb : ∀ (W : WX) (pn : List (Addr × Obj)) (xe : Value → Shared → Prop), Takes (X.tr pn xe) W → PassesOwn (model X.prog X.w) X.A X.env xe → PSs (X.tr pn xe) body (tb W))
    (hu : ∀ (a : Addr) (o : Obj) (cls : Value) (d : Option Addr) (pn : List (Addr × Obj)), Zc cls d o → (∃ vs, o.data = .fields vs) → PSs (X.suite a ((a, o) :: pn)) (st0 :: rest) (ts a cls d)) :
    PS X (.Try body (.ExceptHandler (some (.Name x q1)) (some n) (st0 :: rest) q2 :: more) [] [] q3) (fun D σ H => tb (wOne X.K c i ts D) D σ H) := by
  refine ⟨fun pins s σ H D I hq => wpAny_Try_except ?_⟩
  have ok := I.ok
  have frames : X.A.frames = some (X.env :: X.outer) := ok.frames.trans (congrArg some hs)
  have run := (hb (wOne X.K c i ts D) (X.pn ++ pins) (fun e s1 => wpAny (model X.prog X.w) X.A (noteFrame e X.env) (fun _ s2 => wpAny (model X.prog X.w) X.A (setFlight e none) (fun _ s3 =>
      wpAny (model X.prog X.w) X.A (handleBy e X.env (.ExceptHandler (some (.Name x q1)) (some n) (st0 :: rest) q2 :: more)) (SP X pins D) X.xe s3) X.xe s2) X.xe s1) ?take PassesOwn.looking).run [] s σ H D (I.toTry _) hq
  case take =>
    rintro u s' ⟨a, B, sI, pp, σ', H', cls, d, rfl, J0, hB, up0, sky, na, hos, hbare, wx, wy⟩
    have J := J0.ofTry ok
    have sky2 : Sky B (X.env :: X.outer) a (Zc cls d) X.env.locals s'.heap := by rw [← hs]; exact sky
    show wpAny (model X.prog X.w) X.A (noteFrame (.ref a) X.env) _ _ _
    refine Sky.land Zc.steady frames hf sky2 fun hp fly up1 => ?_
    have J1 : Inv X pins σ' H' { s' with heap := hp } := J.landed hB fly.1 (up0.trans up1) hos hbare
    obtain ⟨o1, fs1, ho1, hz1, hd1⟩ := fly.there
    have away : ∀ b ∈ frs (X.env :: X.outer), b ≠ a := fun b hb e => by
      obtain ⟨_, o', e', hnf⟩ := fly.2.2.1.mem hb
      rw [e, ho1] at e'
      cases e'
      exact hnf _ hd1
    have nL : a ≠ X.env.locals := fun e => away X.env.locals (List.mem_filterMap.mpr ⟨X.env, List.mem_cons_self, hf⟩) e.symm
    have nF : a ∉ X.fs := fun hm => away a (by
      obtain ⟨v, hv, q⟩ := List.mem_filterMap.mp hm
      exact List.mem_filterMap.mpr ⟨v, List.mem_cons_of_mem _ hv, q⟩) rfl
    have S1 := J1.suite ho1 hd1 na nL nF
    refine wpAny_handleBy_cons (codeAny_handlers_test ?_) (by intro q; cases q)
    have lookT : PySem.W.Looks (model X.prog X.w) hp (typeOf (.ref a)) cls := fun _ _ _ _ k q => wpAny_typeOf_ref (k _ _ ho1) (hz1.1 ▸ q)
    have lookM := PySem.W.exm_one (M := model X.prog X.w) (J1.kIn) lookT wx
    have named : ∀ {Q E : Value → Shared → Prop}, Q c { s' with heap := hp } → wpAny (model X.prog X.w) (X.A.mark (some (.ref a))) (eval (.Name x q1) X.env) Q E { s' with heap := hp } := fun {Q E} q => by
      obtain ⟨g1, g2, g3⟩ := hc
      cases g3 with
      | inl m1 => exact ld_glob (X := X.suite a ((a, o1) :: (X.pn ++ pins))) S1 g1 m1 q g2
      | inr m1 => exact ld_blt (X := X.suite a ((a, o1) :: (X.pn ++ pins))) S1 g1 m1.1 m1.2.1 q m1.2.2 g2
    refine named (lookM.here (codeAny_handlers_suite_as ?_))
    refine HandSPX.lands_againZ fly fun hp2 fly2 up2 => ?_
    have J2 : Inv X pins σ' H' { s' with heap := hp2 } := J.landed hB fly2.1 ((up0.trans up1).trans up2) hos hbare
    obtain ⟨o2, fs2, ho2, hz2, hd2⟩ := fly2.there
    have S2 := J2.suite ho2 hd2 na nL nF
    refine store_ok (X := X.suite a ((a, o2) :: (X.pn ++ pins))) (v := .ref a) S2 hN hi (.inl hl) rfl (fun s5 S5 => ?_) (.inr hl)
    exact wpAny_mono ((hu a o2 cls d (X.pn ++ pins) hz2 ⟨_, hd2⟩).run [] s5 _ H' _ S5 (wy a na)) (fun fl s6 h6 => sp_gone ok hN hi hl h6) fun _ _ z => z.elim
  refine wpAny_mono run (fun fl s1 h1 => ?_) fun _ _ z => z
  have h2 := sp_same (pn := []) ok h1
  cases fl with
  | next => exact wpAny_execs_nil h2
  | _ => exact h2
end
end Z
namespace Z
open PySem PySem.Spec L2
open PyProof.Rows hiding St

/-! ## evaluator functions that may end in an error -/
structure Exn where
  cls : Str
  fld : Str
  val : D
abbrev MX := Rho → Option ((D ⊕ Exn) × Rho)
abbrev SX := Rho → Option ((Out ⊕ Exn) × Rho)
/-- how a heap shows an error -/
def ExcAt (K : PySem.W.Frag) (mg : Str → Option Value) (H : Hp) (O : AS) (e : Exn) (cls : Value) (d : Option Addr) : Prop :=
  ∃ (C a : Addr) (z : V), mg e.cls = some (.ref C) ∧ cls = .ref C ∧ d = some a ∧ H a = some (.xd [(e.fld, z)]) ∧ Rep K H O e.val z
theorem ExcAt.mono {K : PySem.W.Frag} {mg : Str → Option Value} {H H' : Hp} {O O' : AS} {e : Exn} {cls : Value} {d : Option Addr} (k : Keeps H O H' O') (h : ExcAt K mg H O e cls d) (hd : ∀ a o, d = some a → H a = some o → H' a = some o) : ExcAt K mg H' O' e cls d := by
  obtain ⟨C, a, z, h1, h2, h3, h4, h5⟩ := h
  exact ⟨C, a, z, h1, h2, h3, hd a _ h3 h4, h5.mono k⟩
def EndX (mg : Str → Option Value) (W : WX) (c : Cn) (E : AS) (ρ : Rho) (σ : L2.St) (H : Hp) (ρ' : Rho) (out : D ⊕ Exn) (Q : VK) : Prop :=
  match out with
  | .inl d => ∀ z H', PostV c E ρ σ H ρ' H' d z → Q z H'
  | .inr e => ∀ cls a H', PostN c E ρ σ H ρ' σ H' → ExcAt c.K mg H' (OE ρ' σ E) e cls a → W cls a σ H'
def tX (X : Cx) (W : WX) (f : MX) : TE := fun σ H Q => ∃ c E ρ out ρ', c.K = X.K ∧ R c E ρ σ H ∧ f ρ = some (out, ρ') ∧ EndX X.mg W c E ρ σ H ρ' out Q
def EndXS (mg : Str → Option Value) (W : WX) (c : Cn) (E : AS) (ρ : Rho) (σ : L2.St) (H : Hp) (ρ' : Rho) (out : Out ⊕ Exn) (Dd : Ends) : Prop :=
  match out with
  | .inl o => EndS c E ρ σ H ρ' o Dd
  | .inr e => ∀ cls a σ' H', PostN c E ρ σ H ρ' σ' H' → ExcAt c.K mg H' (OE ρ' σ' E) e cls a → W cls a σ' H'
def tXS (X : Cx) (W : WX) (pr : List Nat) (s : SX) : TS := fun Dd σ H => ∃ c E ρ out ρ', c.K = X.K ∧ c.pr = pr ∧ R c E ρ σ H ∧ s ρ = some (out, ρ') ∧ EndXS X.mg W c E ρ σ H ρ' out Dd

def xN (f : ME) : MX := fun ρ => (f ρ).bind fun r => some (.inl r.1.d, r.2)
def xIf (t : MB) (f g : MX) : MX := fun ρ => (t ρ).bind fun r => if r.1 then f r.2 else g r.2
/-- a pair whose second part may end in an error -/
def xTup2 (a : ME) (f : MX) : MX := fun ρ => (a ρ).bind fun r => (f r.2).bind fun s => match s.1 with
  | .inl d => some (.inl (.tuple [r.1.d, d]), s.2)
  | .inr e => some (.inr e, s.2)
/-- what is nothing but an error -/
def xOnly (g : MX) : MX := fun ρ => (g ρ).bind fun r => match r.1 with
  | .inl _ => none
  | .inr e => some (.inr e, r.2)
def sxN (s : SS) : SX := fun ρ => (s ρ).bind fun r => some (.inl r.1, r.2)
def sxSeq (s t : SX) : SX := fun ρ => (s ρ).bind fun r => match r.1 with
  | .inl .nx => t r.2
  | o => some (o, r.2)
def sxIf (t : MB) (a b : SX) : SX := fun ρ => (t ρ).bind fun r => if r.1 then a r.2 else b r.2
def sxRet (f : MX) : SX := fun ρ => (f ρ).bind fun r => match r.1 with
  | .inl d => some (.inl (.rt (.v d)), r.2)
  | .inr e => some (.inr e, r.2)
def sxDrop (f : MX) : SX := fun ρ => (f ρ).bind fun r => match r.1 with
  | .inl _ => some (.inl .nx, r.2)
  | .inr e => some (.inr e, r.2)
def sxRaise (cn fl : Str) (f : ME) : SX := fun ρ => (f ρ).bind fun r => some (.inr ⟨cn, fl, r.1.d⟩, r.2)

section
variable {X : Cx} {W : WX} {pr : List Nat} {a b e t : Expr} {es : List Expr} {f : ME} {g h : MX} {bt : MB} {s : SS} {sx tx : SX} {st : Stmt} {sts as bs : List Stmt} {pos : Pos}
theorem EndX.from {mg : Str → Option Value} {c : Cn} {E : AS} {ρ ρ1 ρ' : Rho} {σ : L2.St} {H H1 : Hp} {out : D ⊕ Exn} {Q : VK} (p : Stp ρ σ H ρ1 σ H1) (q : EndX mg W c E ρ σ H ρ' out Q) : EndX mg W c E ρ1 σ H1 ρ' out Q := by
  cases out with
  | inl d => exact fun z H' P => q z H' ⟨p.trans P.1, P.2⟩
  | inr e => exact fun cls a H' P x => q cls a H' ⟨p.trans P.1, P.2⟩ x
theorem EndXS.from {mg : Str → Option Value} {c : Cn} {E : AS} {ρ ρ1 ρ' : Rho} {σ σ1 : L2.St} {H H1 : Hp} {out : Out ⊕ Exn} {Dd : Ends} (p : PostN c E ρ σ H ρ1 σ1 H1) (q : EndXS mg W c E ρ σ H ρ' out Dd) : EndXS mg W c E ρ1 σ1 H1 ρ' out Dd := by
  cases out with
  | inl o => exact EndS.from p q
  | inr e => exact fun cls a σ' H' P x => q cls a σ' H' (p.trans P) x
theorem zx_n (he : PE X e (tE X f)) : PE X e (tX X W (xN f)) := by
  refine ⟨fun pins s σ H Q I hq => he.run pins s σ H Q I ?_⟩
  obtain ⟨c, E, ρ, out, ρ', hK, hR, hf, q⟩ := hq
  obtain ⟨⟨rv, ρ1⟩, h1, hf⟩ := bindS hf
  cases hf
  exact ⟨c, E, ρ, rv, ρ1, hK, hR, h1, fun z H1 P1 => q z H1 (P1.pv hR)⟩
theorem zx_if (ht : PT X t (tT X bt)) (ha : PE X a (tX X W g)) (hb : PE X b (tX X W h)) : PE X (.IfExp t a b pos) (tX X W (xIf bt g h)) := by
  refine ⟨fun pins s σ H Q I hq => (pe_ifExp ht ha hb).run pins s σ H Q I ?_⟩
  obtain ⟨c, E, ρ, out, ρ', hK, hR, hf, q⟩ := hq
  obtain ⟨⟨k, ρ1⟩, h1, hf⟩ := bindS hf
  refine ⟨c, E, ρ, k, ρ1, hK, hR, h1, fun H1 P1 => ?_⟩
  cases k with
  | true => exact iteT ⟨c, E, ρ1, out, ρ', hK, P1.2, hf, q.from P1.1⟩
  | false => exact iteF ⟨c, E, ρ1, out, ρ', hK, P1.2, hf, q.from P1.1⟩
theorem zx_tup2 {x1 : Nat} (ha : PE X a (tE X f)) (hb : PE X b (tX X W g)) (hs1 : starEach [a, b] X.env = (false, eval a X.env) :: starEach [b] X.env) (hs2 : starEach [b] X.env = (false, eval b X.env) :: starEach [] X.env) : PE X (.Tuple [a, b] x1 pos) (tX X W (xTup2 f g)) := by
  refine ⟨fun pins s σ H Q I hq => (pe_tup (pa_cons ha (pa_cons hb pa_nil hs2) hs1)).run pins s σ H Q I ?_⟩
  obtain ⟨c, E, ρ, out, ρ', hK, hR, hf, q⟩ := hq
  obtain ⟨⟨rv, ρ1⟩, h1, hf⟩ := bindS hf
  obtain ⟨⟨o2, ρ2⟩, h2, hf⟩ := bindS hf
  refine ⟨c, E, ρ, rv, ρ1, hK, hR, h1, fun z H1 P1 => ?_⟩
  obtain ⟨s1, r1, v1⟩ := P1.pv hR
  refine ⟨c, E, ρ1, o2, ρ2, hK, r1, h2, ?_⟩
  cases o2 with
  | inr ex =>
    cases hf
    exact fun cls a' H' P x => q cls a' H' ⟨s1.trans P.1, P.2⟩ x
  | inl d =>
    cases hf
    refine fun z2 H2 P2 => ⟨by rw [sizeLine_eq]; simp, fun p np => q _ _ ?_⟩
    have rr : Reps c.K H2 (OE ρ2 σ E) [rv.d, d] [z, z2] := .cons (v1.mono P2.1.keeps) (.cons P2.2.2 .nil)
    exact (ResB.post (rv := .v (.tuple [rv.d, d])) (s1.trans P2.1) P2.2.1 (resTup (oe_there P2.2.1) rr np)).v
theorem xs_n (hs : PS X st (tS X pr s)) : PS X st (tXS X W pr (sxN s)) := by
  refine ⟨fun pins s0 σ H Dd I hq => hs.run pins s0 σ H Dd I ?_⟩
  obtain ⟨c, E, ρ, out, ρ', hK, hp, hR, hf, q⟩ := hq
  obtain ⟨⟨o, ρ1⟩, h1, hf⟩ := bindS hf
  cases hf
  exact ⟨c, E, ρ, o, ρ1, hK, hp, hR, h1, q⟩
theorem xs_nil : PSs X [] (tXS X W pr (sxN sNil)) := by
  refine ⟨fun pins s σ H Dd I hq => pss_nil.run pins s σ H Dd I ?_⟩
  obtain ⟨c, E, ρ, out, ρ', hK, hp, hR, hf, q⟩ := hq
  cases hf
  exact q σ H ⟨Stp.rfl, hR⟩
theorem xs_cons (h1 : PS X st (tXS X W pr sx)) (h2 : PSs X sts (tXS X W pr tx)) : PSs X (st :: sts) (tXS X W pr (sxSeq sx tx)) := by
  refine ⟨fun pins s σ H Dd I hq => (pss_cons h1 h2).run pins s σ H Dd I ?_⟩
  obtain ⟨c, E, ρ, out, ρ', hK, hp, hR, hf, q⟩ := hq
  obtain ⟨⟨o1, ρ1⟩, h1, hf⟩ := bindS hf
  refine ⟨c, E, ρ, o1, ρ1, hK, hp, hR, h1, ?_⟩
  cases o1 with
  | inr ex => cases hf; exact q
  | inl o =>
    cases o with
    | nx => exact fun σ' H' p => ⟨c, E, ρ1, out, ρ', hK, hp, p.2, hf, q.from p⟩
    | bk => cases hf; exact q
    | ct => cases hf; exact q
    | rt rv => cases hf; exact q
theorem xs_if (ht : PT X t (tT X bt)) (ha : PSs X as (tXS X W pr sx)) (hb : PSs X bs (tXS X W pr tx)) : PS X (.If t as bs pos) (tXS X W pr (sxIf bt sx tx)) := by
  refine ⟨fun pins s σ H Dd I hq => (ps_if ht ha hb).run pins s σ H Dd I ?_⟩
  obtain ⟨c, E, ρ, out, ρ', hK, hp, hR, hf, q⟩ := hq
  obtain ⟨⟨k, ρ1⟩, h1, hf⟩ := bindS hf
  refine ⟨c, E, ρ, k, ρ1, hK, hR, h1, fun H1 P1 => ?_⟩
  cases k with
  | true => exact iteT ⟨c, E, ρ1, out, ρ', hK, hp, P1.2, hf, q.from P1⟩
  | false => exact iteF ⟨c, E, ρ1, out, ρ', hK, hp, P1.2, hf, q.from P1⟩
theorem xs_ret (he : PE X e (tX X W g)) : PS X (.Return (some e) pos) (tXS X W pr (sxRet g)) := by
  refine ⟨fun pins s σ H Dd I hq => (ps_ret he).run pins s σ H Dd I ?_⟩
  obtain ⟨c, E, ρ, out, ρ', hK, hp, hR, hf, q⟩ := hq
  obtain ⟨⟨o1, ρ1⟩, h1, hf⟩ := bindS hf
  refine ⟨c, E, ρ, o1, ρ1, hK, hR, h1, ?_⟩
  cases o1 with
  | inr ex => cases hf; exact fun cls a H' P x => q cls a σ H' P x
  | inl d => cases hf; exact fun z H1 P1 => q z σ H1 ⟨⟨P1.1, P1.2.1⟩, P1.2.2⟩
theorem xs_drop (he : PE X e (tX X W g)) (hs : swapsWith e none pos.line X.env = pure false) : PS X (.Expr e pos) (tXS X W pr (sxDrop g)) := by
  refine ⟨fun pins s σ H Dd I hq => (ps_expr he hs).run pins s σ H Dd I ?_⟩
  obtain ⟨c, E, ρ, out, ρ', hK, hp, hR, hf, q⟩ := hq
  obtain ⟨⟨o1, ρ1⟩, h1, hf⟩ := bindS hf
  refine ⟨c, E, ρ, o1, ρ1, hK, hR, h1, ?_⟩
  cases o1 with
  | inr ex => cases hf; exact fun cls a H' P x => q cls a σ H' P x
  | inl d => cases hf; exact fun z H1 P1 => q σ H1 ⟨P1.1, P1.2.1⟩
end
end Z
namespace Z
open PySem PySem.Spec L2
open PyProof.Rows hiding St

/-! ## raise, calls of defs that may raise, such defs by their bodies -/
structure FnX where
  n : Nat
  run : List D → Option (D ⊕ Exn)
def spX (K : PySem.W.Frag) (mg : Str → Option Value) (F : FnX) : Sp := fun vs H Q E => ∃ (O : AS) (ds : List D) (out : D ⊕ Exn), vs.length = F.n ∧ F.run ds = some out ∧ (∀ b, O b → ∃ o, H b = some o) ∧ Reps K H O ds vs ∧
  match out with
  | .inl d => ∀ z H', Grow H H' → Rep K H' O d z → Q z H'
  | .inr e => ∀ cls a H', Grow H H' → ExcAt K mg H' O e cls a → E cls a H'
structure ClsOk (P : Program) (w : World) (K : PySem.W.Frag) (mg : Str → Option Value) (base : Heap) (k : Nat) (cn fld : Str) (C fI : Addr) (fd : FuncData) (gv : Str) : Prop where
  at_ : mg cn = some (.ref C)
  oex : OexC K C
  ini : PySem.W.findIn K (.ref C) "__init__" = some (some (.ref fI))
  tI : PySem.W.typeIn K (.ref fI) = some (.type "function")
  bi : Binds K fd ["self", gv] []
  fn : FnOk P w K mg base CX0 k fI fd ["self", gv] (initSp C fld)
  xf : XfC K C
  nof : PySem.W.findIn K (.ref C) fld = some none
  exm : PySem.W.exmOne K (.ref C) (.ref C) = some true
section
variable {X : Cx} {W : WX} {pr : List Nat} {e : Expr} {es : List Expr} {f : ME} {k : Nat} {cn fld gv : Str} {C fI : Addr} {fd : FuncData} {pos p1 p2 p : Pos}
theorem xs_raise (T : ClsOk X.prog X.w X.K X.mg X.base k cn fld C fI fd gv) (hc : X.calm = true) (tk : Takes X W) (hr : Room (k + 1) X.A) (hg : Gl X cn) (hdb : (cn == ("__debug__" : Str)) = false) (he : PE X e (tE X f))
    (hs : starEach [e] X.env = (false, eval e X.env) :: starEach [] X.env) : PS X (.Raise (some (.Call (.Name cn p1) [e] [] p2)) none pos) (tXS X W pr (sxRaise cn fld f)) := by
  have mk := pmk_oex (CX := CX0) (p := p1) (pos := p2) (dvs := []) (ds := []) T.oex T.ini T.tI T.fn hr T.bi .nil pass0 hg T.at_ (pa_cons he pa_nil hs) hdb hs
  refine ⟨fun pins s σ H Dd I hq => (ps_raise (W := W) hc tk mk).run pins s σ H Dd I ?_⟩
  obtain ⟨c, E, ρ, out, ρ', hK, hp, hR, hf, q⟩ := hq
  obtain ⟨⟨rv, ρ1⟩, h1, hf⟩ := bindS hf
  cases hf
  refine ⟨c, E, ρ, rv, ρ1, hK, hR, h1, fun z H1 P1 => ⟨by simp, fun a na => ?_⟩⟩
  obtain ⟨s1, r1, v1⟩ := P1.pv hR
  refine ⟨a, z, rfl, upd_same, fun dx nd ne => ⟨rfl, dx, [(fld, z)], upd_same, ?_, ?_, ?_⟩⟩
  · rw [upd_ne ne, upd_same]
  · rw [upd_ne ne] at nd; exact nd
  · rw [upd_ne ne] at nd
    have e3 : upd (del (upd (upd (upd H1 a (exo a C none)) dx (exd dx [(fld, z)])) a (exo a C (some dx))) a) dx (.xd [(fld, z)]) = upd H1 dx (.xd [(fld, z)]) := by
      funext b
      by_cases h1 : b = dx
      · rw [h1, upd_same, upd_same]
      · rw [upd_ne h1, upd_ne h1]
        by_cases h2 : b = a
        · rw [h2, del_same, na]
        · rw [del_ne h2, upd_ne h2, upd_ne h1, upd_ne h2]
    rw [e3]
    have g : Grow H1 (upd H1 dx (.xd [(fld, z)])) := Grow.upd nd
    exact q _ _ σ _ ⟨s1.trans g.stp, r1.grow g⟩ ⟨C, dx, z, T.at_, rfl, rfl, upd_same, v1.mono g.keeps⟩

def xCall (F : FnX) (fs : MOs) : MX := fun ρ => (fs ρ).bind fun r => (tvs r.1).bind fun ds => if ds.length = F.n then (F.run ds).bind fun o => some (o, r.2) else none
theorem xcall_read {F : FnX} {fs : MOs} {σ : L2.St} {H : Hp} {Q : VK} (hq : tX X W (xCall F fs) σ H Q) : tOps X fs σ H fun vs H1 => spX X.K X.mg F vs H1 Q (WE W σ) := by
  obtain ⟨c, E, ρ, out, ρ', hK, hR, hf, q⟩ := hq
  obtain ⟨⟨ps, ρ1⟩, h1, hf⟩ := bindS hf
  obtain ⟨ds, h2, hf⟩ := bindS hf
  split at hf
  · rename_i hl
    obtain ⟨o, h3, hf⟩ := bindS hf
    cases hf
    refine ⟨c, E, ρ, ps, ρ1, hK, hR, h1, fun vs H1 P1 => ?_⟩
    have rr := tvs_ok P1.2.1 h2 P1.2.2
    refine ⟨OE ρ1 σ E, ds, out, by rw [← rr.length]; exact hl, h3, oe_there P1.2.1, by rw [← hK]; exact rr, ?_⟩
    cases out with
    | inl d => exact fun z H' g r => q z H' ⟨P1.1.trans g.stp, P1.2.1.grow g, by rw [hK]; exact r⟩
    | inr ex => exact fun cls a H' g x => q cls a H' ⟨P1.1.trans g.stp, P1.2.1.grow g⟩ (by rw [hK]; exact x)
  · cases hf
variable {F : FnX} {fs gs : MOs} {x : Str} {f0 : Addr} {ps ks : List Str} {kws : List Keyword}
theorem zx_call (Fo : FnOk X.prog X.w X.K X.mg X.base (L2.CX X.prog X.w) k f0 fd ps (spX X.K X.mg F)) (tk : Takes X W) (hr : Room k X.A) (hg : Gl X x) (hm : X.mg x = some (.ref f0)) (hk : PySem.W.keepIn X.K (.ref f0) = true) (hb : Binds X.K fd ps []) (ha : PA X (e :: es) (tOps X fs))
    (hdb : (x == ("__debug__" : Str)) = false) (he : starEach (e :: es) X.env = (false, eval e X.env) :: starEach es X.env) (hpl : (backTo pos (starEach es X.env)).any (·.1) = false) : PE X (.Call (.Name x p) (e :: es) [] pos) (tX X W (xCall F fs)) :=
  ⟨fun pins s σ H Q I hq => (pe_callS (E := WE W) (sp := spX X.K X.mg F) Fo hr hg hm hk hb (passAt tk) ha hdb he hpl).run pins s σ H Q I (xcall_read hq)⟩
/-- f(n=e, ..): all by keywords -/
def xCallK (F : FnX) (m : Nat) (pm : List Nat) (gs : MOs) : MX := fun ρ => (gs ρ).bind fun s => (tvs s.1).bind fun es => (permL es pm).bind fun xs => if decide (xs.length = F.n) && decide (es.length = m) then (F.run xs).bind fun o => some (o, s.2) else none
theorem xcallK_read {m : Nat} {pm : List Nat} {σ : L2.St} {H : Hp} {Q : VK} (hq : tX X W (xCallK F m pm gs) σ H Q) : tOps X gs σ H fun zs H1 => zs.length = m ∧ ∃ ys, permL ([] ++ zs) pm = some ys ∧ spX X.K X.mg F ys H1 Q (WE W σ) := by
  obtain ⟨c, E, ρ, out, ρ', hK, hR, hf, q⟩ := hq
  obtain ⟨⟨ps, ρ1⟩, h1, hf⟩ := bindS hf
  obtain ⟨es2, h2, hf⟩ := bindS hf
  obtain ⟨xs, h4, hf⟩ := bindS hf
  split at hf
  · rename_i hl
    simp only [Bool.and_eq_true, decide_eq_true_eq] at hl
    obtain ⟨o, h3, hf⟩ := bindS hf
    cases hf
    refine ⟨c, E, ρ, ps, ρ1, hK, hR, h1, fun vs H1 P1 => ?_⟩
    have rr := tvs_ok P1.2.1 h2 P1.2.2
    obtain ⟨ys, e1, e2⟩ := permL_map rr h4
    refine ⟨by rw [← rr.length]; exact hl.2, ys, e1, OE ρ1 σ E, xs, out, by rw [← e2.length]; exact hl.1, h3, oe_there P1.2.1, by rw [← hK]; exact e2, ?_⟩
    cases out with
    | inl d => exact fun z H' g r => q z H' ⟨P1.1.trans g.stp, P1.2.1.grow g, by rw [hK]; exact r⟩
    | inr ex => exact fun cls a H' g x => q cls a H' ⟨P1.1.trans g.stp, P1.2.1.grow g⟩ (by rw [hK]; exact x)
  · cases hf
theorem fnx_run {CX : CXT} {sp : Sp} {E : L2.St → XK} {n : Nat} {pm : List Nat} {pins : List (Addr × Obj)} {s : Shared} {σ : L2.St} {H : Hp} {Q : VK} {us ws : List Value} {vs zs ys : List V} (Fo : FnOk X.prog X.w X.K X.mg X.base CX k f0 fd ps sp) (hr : Room k X.A) (hb : KwOk X.K fd ps ks n pm) (hx : PassesAt CX X σ (E σ))
    (I : Inv X pins σ H s) (r : Vals vs us) (rz : Vals zs ws) (l1 : vs.length = n) (l2 : zs.length = ks.length) (e : permL (vs ++ zs) pm = some ys) (h : sp ys H Q (E σ)) : wpAny (model X.prog X.w) X.A (call (.ref f0) us (ks.zip ws)) (EP X pins σ Q) X.xe s := by
  have r2 := permL_rel (r.append rz) (pm := pm)
  rw [e] at r2
  have r2 : Vals ys ((permL (us ++ ws) pm).getD []) := r2
  have hl : ys.length = ps.length := Fo.len _ _ _ _ h
  have e2 : permL (us ++ ws) pm = some ((permL (us ++ ws) pm).getD []) := by
    cases q : permL (us ++ ws) pm with
    | some x => rfl
    | none =>
      rw [q] at r2
      cases r2
      cases pm with
      | nil => cases q
      | cons i pm =>
        unfold permL at e
        obtain ⟨x, _, e⟩ := bindS e
        obtain ⟨t, _, e⟩ := bindS e
        cases e
  refine wpAny_call (codeAny_mono (Fo.run X.A X.stack s H ⟨us, ks.zip ws⟩ _ ys Q (E σ) hr I.env0 (hb.to s us ws _ I.kIn (by rw [← r.length]; exact l1) e2 (by rw [← r2.length]; exact hl) (by rw [← rz.length]; exact l2)) r2 h) fun r s' hq => ?_)
  cases r with
  | error e => exact hx pins H s e s' I hq
  | ok fl =>
    cases fl with
    | ret u => exact I.after hq
    | _ => exact False.elim hq
theorem zx_callK {pm : List Nat} (Fo : FnOk X.prog X.w X.K X.mg X.base (L2.CX X.prog X.w) k f0 fd ps (spX X.K X.mg F)) (tk : Takes X W) (hr : Room k X.A) (hg : Gl X x) (hm : X.mg x = some (.ref f0)) (hk : PySem.W.keepIn X.K (.ref f0) = true) (hb : KwOk X.K fd ps ks 0 pm)
    (hkw : PK X kws (tOps X gs)) (hall : (backToKw pos (keywordEach kws X.env)).all (·.1.isSome) = true) (hks : (backToKw pos (keywordEach kws X.env)).filterMap (·.1) = ks) (hdb : (x == ("__debug__" : Str)) = false)
    (hpl : (backToKw pos (keywordEach kws X.env)).any (·.1.isNone) = false) : PE X (.Call (.Name x p) [] kws pos) (tX X W (xCallK F ks.length pm gs)) := by
  refine ⟨fun pins s σ H Q I hq => ?_⟩
  refine wpAny_Call_Name_kw (ld_glob I hg hm ?_ hdb)
  refine PySem.W.callWith_KW0 (h₀ := X.base) I.ok.mod.kin hk hall (thn (hkw.run pos pins s σ H _ I (xcallK_read hq)) fun ws s2 ⟨zs, H2, I2, rz, l2, ys, e, h⟩ => ⟨I2.kIn, ?_⟩) (by rw [hpl]; rfl)
  rw [hks]
  exact fnx_run (E := WE W) (us := []) Fo hr hb (passAt tk σ) I2 .nil rz rfl l2 e h
end

/-! ## such a def by its body -/
def runX (n k : Nat) (body : SX) : List D → Option (D ⊕ Exn) := fun ds =>
  if ds.length = k then (body (ds.map (fun d => some (.v d)) ++ List.replicate (n - k) none)).bind fun r => match r.1 with
    | .inl (.rt (.v d)) => some (.inl d)
    | .inl .nx => some (.inl .none)
    | .inr e => some (.inr e)
    | _ => none
  else none
section
variable {P : Program} {w : World} {K : PySem.W.Frag} {mg : Str → Option Value} {base : Heap}
theorem start_v {K : PySem.W.Frag} {H : Hp} {O : AS} {N : List Str} {ds : List D} {vs : List V} (r : Reps K H O ds vs) (hl : ds.length ≤ N.length) (hO : ∀ b, O b → ∃ o, H b = some o) :
    R ⟨K, H, L2.start N vs, []⟩ O (ds.map (fun d => some (RV.v d)) ++ List.replicate (N.length - ds.length) none) (L2.start N vs) H ∧ ∀ b, ¬ OwnS (ds.map (fun d => some (RV.v d)) ++ List.replicate (N.length - ds.length) none) (L2.start N vs) b := by
  have no : ∀ (i : Nat) (d : D), (ds.map (fun d => some (RV.v d)) ++ List.replicate (N.length - ds.length) none)[i]? = some (some (.o d)) → False := fun i d q => by
    rcases app_get q with ⟨_, q⟩ | q
    · rw [List.getElem?_map] at q
      cases e : ds[i]? with
      | none => rw [e] at q; cases q
      | some y => rw [e] at q; cases q
    · exact nomatch (List.mem_replicate.mp q).2
  have nO : ∀ b, ¬ OwnS (ds.map (fun d => some (RV.v d)) ++ List.replicate (N.length - ds.length) none) (L2.start N vs) b := fun b ⟨i, d, q, _⟩ => no i d q
  have eO : OE (ds.map (fun d => some (RV.v d)) ++ List.replicate (N.length - ds.length) none) (L2.start N vs) O = O := by
    funext b
    exact propext ⟨fun h => h.elim id fun h => (nO b h).elim, .inl⟩
  have len := r.length
  refine ⟨⟨?_, fun i d q => ?_, fun i d q => (no i d q).elim, fun i j d e a q => (no i d q).elim, hO, fun b o h => ⟨o, h⟩, fun i hi => by cases hi⟩, nO⟩
  · unfold L2.start
    simp [len]
  · rcases app_get q with ⟨hi, q⟩ | q
    · rw [List.getElem?_map] at q
      cases e : ds[i]? with
      | none => rw [e] at q; cases q
      | some y =>
        rw [e] at q
        cases q
        obtain ⟨v, h1, h2⟩ := r.get e
        refine ⟨v, ?_, by rw [eO]; exact h2⟩
        have hi : i < vs.length := by
          rw [← len]
          simpa using hi
        unfold L2.start
        rw [List.getElem?_append_left (by rw [List.length_map]; exact hi), List.getElem?_map, h1]
        rfl
    · exact nomatch (List.mem_replicate.mp q).2
theorem zfnX {x qual : Str} {st : Stmt} {f : Addr} {fd : FuncData} {N ps : List Str} {k : Nat} {body : SX} (F : Fun K x qual st f fd) (S : FnScope N ps (defScope st)) (hN : ps.length ≤ N.length)
    (hb : ∀ (cdv : Value) (A : Around) (outer : List Env) (s : Shared) (H : Hp) (E : XK), Room k (A.deeper (envOfC qual (defScope st) s.heap.objs.size f cdv)) → Takes (cxOf (L2.CX P w) P w K mg base N qual (defScope st) f cdv A outer s H E) (fun cls d _ H => E cls d H) →
      PassesOwn (model P w) (cxOf (L2.CX P w) P w K mg base N qual (defScope st) f cdv A outer s H E).A (cxOf (L2.CX P w) P w K mg base N qual (defScope st) f cdv A outer s H E).env (cxOf (L2.CX P w) P w K mg base N qual (defScope st) f cdv A outer s H E).xe →
      PSs (cxOf (L2.CX P w) P w K mg base N qual (defScope st) f cdv A outer s H E) (defBody st) (tXS (cxOf (L2.CX P w) P w K mg base N qual (defScope st) f cdv A outer s H E) (fun cls d _ H => E cls d H) [] body)) :
    FnOk P w K mg base (L2.CX P w) (k + 1) f fd ps (spX K mg ⟨ps.length, runX N.length ps.length body⟩) := by
  refine Fun.okX F S (fun vs H Q E h => ?_) (fun cdv A outer s H vs Q E hr h => ⟨_, hb cdv A outer s H E hr (takes_of rfl rfl rfl rfl) (passes_of rfl), ?_⟩)
  · obtain ⟨O, ds, out, h1, _⟩ := h
    exact h1
  · obtain ⟨O, ds, out, h1, h2, h3, h4, q⟩ := h
    have h2 : runX N.length ps.length body ds = some out := h2
    unfold runX at h2
    split at h2
    · rename_i hl
      obtain ⟨⟨o, ρ'⟩, e1, e2⟩ := bindS h2
      obtain ⟨hR, nO⟩ := start_v (N := N) h4 (by rw [hl]; exact hN) h3
      rw [hl] at hR nO
      have fin : ∀ {σ' : L2.St} {H' : Hp}, PostN ⟨K, H, L2.start N vs, []⟩ O (ds.map (fun d => some (RV.v d)) ++ List.replicate (N.length - ps.length) none) (L2.start N vs) H ρ' σ' H' → Grow H H' ∧ Keeps H' (OE ρ' σ' O) H' O := fun {σ' H'} p =>
        ⟨fun b o hb => p.1.keep b o hb (nO b), fun b o hb n => ⟨hb, fun y => n (.inl y)⟩⟩
      refine ⟨⟨K, H, L2.start N vs, []⟩, O, _, o, ρ', rfl, rfl, hR, e1, ?_⟩
      cases o with
      | inr ex =>
        cases e2
        intro cls a σ' H' p x
        obtain ⟨g, kk⟩ := fin p
        exact q cls a H' g (x.mono kk fun _ _ _ h => h)
      | inl o =>
        cases o with
        | bk => cases e2
        | ct => cases e2
        | nx =>
          cases e2
          intro σ' H' p
          obtain ⟨g, kk⟩ := fin p
          exact q .non H' g .non
        | rt rv =>
          cases rv with
          | o d => cases e2
          | v d =>
            cases e2
            intro z σ' H' p
            obtain ⟨g, kk⟩ := fin p.1
            exact q z H' g (p.2.mono kk)
    · cases h2
end
end Z
namespace Z
open PySem PySem.Spec L2
open PyProof.Rows hiding St

/-! ## a def whose body is one try, the first clause of which takes all that is raised and gives (constant, the error's field) -/
/-- a slot is forgotten, its value may be any -/
theorem R.blank {c : Cn} {E : AS} {ρ : Rho} {σ : L2.St} {H : Hp} {i : Nat} {x : Option V} (r : R c E ρ σ H) (np : i ∉ c.pr) : R c E (ρ.set i none) (σ.set i x) H ∧ Stp ρ σ H (ρ.set i none) (σ.set i x) H := by
  have sub : ∀ (j : Nat) (e : RV), (ρ.set i none)[j]? = some (some e) → j ≠ i ∧ ρ[j]? = some (some e) := fun j e q => by
    rcases get_set q with ⟨_, q, _⟩ | q
    · cases q
    · exact q
  have sg : ∀ j, j ≠ i → (σ.set i x)[j]? = σ[j]? := fun j h => List.getElem?_set_ne (Ne.symm h)
  have osub : ∀ b, OwnS (ρ.set i none) (σ.set i x) b → OwnS ρ σ b := fun b ⟨j, e, q1, q2⟩ => by
    obtain ⟨hj, q3⟩ := sub j _ q1
    exact ⟨j, e, q3, by rw [← sg j hj]; exact q2⟩
  have k : Keeps H (OE ρ σ E) H (OE (ρ.set i none) (σ.set i x) E) := fun b o q n => ⟨q, fun y => n (y.elim .inl fun y => .inr (osub b y))⟩
  refine ⟨⟨by rw [List.length_set, List.length_set]; exact r.len, fun j e q => ?_, fun j e q => ?_, fun j l e f a q1 q2 g1 g2 => ?_, r.eal, r.al, fun j hj => ?_⟩, ⟨fun _ _ h _ => h, fun _ _ h => ⟨_, h⟩, fun b _ _ q => osub b q⟩⟩
  · obtain ⟨hj, q⟩ := sub j _ q
    obtain ⟨v, h1, h2⟩ := r.val j e q
    exact ⟨v, by rw [sg j hj]; exact h1, h2.mono k⟩
  · obtain ⟨hj, q⟩ := sub j _ q
    obtain ⟨a, h1, h2, h3, h4⟩ := r.own j e q
    exact ⟨a, by rw [sg j hj]; exact h1, h2.mono k (fun _ h => h), h3, h4⟩
  · obtain ⟨hj, q1⟩ := sub j _ q1
    obtain ⟨hl, q2⟩ := sub l _ q2
    rw [sg j hj] at g1
    rw [sg l hl] at g2
    exact r.inj j l e f a q1 q2 g1 g2
  · have hji : j ≠ i := fun e => np (e ▸ hj)
    rw [sg j hji]
    exact r.prt j hj
theorem cC_v {kc : Const} {d : D} (h : cC kc = some d) : ∃ v, (∀ (X : Cx) (j : Nat) (pos : Pos), PE X (.Constant kc j pos) (tC v)) ∧ ∀ K H O, Rep K H O d v := by
  unfold cC at h
  split at h
  · cases h; exact ⟨_, fun _ _ _ => pe_non, fun _ _ _ => .non⟩
  · cases h; exact ⟨_, fun _ _ _ => pe_bl, fun _ _ _ => .bl _⟩
  · cases h; exact ⟨_, fun _ _ _ => pe_int, fun _ _ _ => .int _⟩
  · split at h
    · rename_i hs
      cases h; exact ⟨_, fun _ _ _ => pe_str, fun _ _ _ => .str _ hs⟩
    · cases h
  · cases h
def sTry (cn fld : Str) (cd : D) (i : Nat) (b : SX) : SS := fun ρ => (b ρ).bind fun r => match r.1 with
  | .inl o => some (o, r.2)
  | .inr e => if e.cls = cn ∧ e.fld = fld ∧ i < r.2.length then some (.rt (.v (.tuple [cd, e.val])), r.2.set i none) else none
section
variable {X : Cx} {pr : List Nat} {k : Nat} {cn fld gv n : Str} {C fI : Addr} {fd : FuncData} {i : Nat} {body : List Stmt} {b : SX} {kc : Const} {cd : D} {more : List ExceptHandler} {q1 q2 q3 q4 q5 q6 q7 q8 : Pos} {x1 x2 : Nat}
theorem zs_try (T : ClsOk X.prog X.w X.K X.mg X.base k cn fld C fI fd gv) (hs : X.stack = X.env :: X.outer) (hf : X.env.frame = some X.env.locals) (hN : X.N.Nodup) (hi : X.N[i]? = some n) (hl : X.env.kindOf n = some .local) (hg : Gl X cn) (hdb : (cn == ("__debug__" : Str)) = false)
    (hnd : (n == ("__debug__" : Str)) = false) (hnc : (n == ("__classdict__" : Str)) = false) (np : i ∉ pr) (hcd : cC kc = some cd)
    (hb : ∀ (W : WX) (pn : List (Addr × Obj)) (xe : Value → Shared → Prop), Takes (X.tr pn xe) W → PassesOwn (model X.prog X.w) X.A X.env xe → PSs (X.tr pn xe) body (tXS (X.tr pn xe) W pr b))
    (hba : ∀ (a : Addr) (o : Obj) (pn : List (Addr × Obj)), attributeBase (.Name n q6) fld (X.suite a ((a, o) :: pn)).env (eval (.Name n q6) (X.suite a ((a, o) :: pn)).env) = eval (.Name n q6) (X.suite a ((a, o) :: pn)).env) :
    PS X (.Try body (.ExceptHandler (some (.Name cn q1)) (some n) [.Return (some (.Tuple [.Constant kc x1 q4, .Attribute (.Name n q6) fld q7] x2 q5)) q8] q2 :: more) [] [] q3) (tS X pr (sTry cn fld cd i b)) := by
  obtain ⟨v, hv, hvr⟩ := cC_v hcd
  have suite : ∀ (a : Addr) (o : Obj) (cls : Value) (d : Option Addr) (pn : List (Addr × Obj)), Zc cls d o → (∃ vs, o.data = .fields vs) → PSs (X.suite a ((a, o) :: pn)) [.Return (some (.Tuple [.Constant kc x1 q4, .Attribute (.Name n q6) fld q7] x2 q5)) q8] _ := fun a o cls d pn hz hfs =>
    pss_cons (ps_ret (pe_tup (pa_cons (hv _ _ _) (pa_cons (pe_xf (X := X) (pos := q7) T.xf T.nof hz hfs (pe_var (X := X.suite a ((a, o) :: pn)) (pos := q6) hi (.inl hl) hnd hnc) (hba a o pn)) pa_nil rfl) rfl))) pss_nil
  refine ⟨fun pins s σ H Dd I hq => (ps_try1 (tb := fun W => tXS X W pr b) (c := .ref C) (q1 := q1) (q2 := q2) (q3 := q3) (more := more) hs hf hN hi hl ⟨hg, hdb, .inl T.at_⟩ hb suite).run pins s σ H Dd I ?_⟩
  obtain ⟨c, E, ρ, out, ρ', hK, hp, hR, hq1, q⟩ := hq
  obtain ⟨⟨o1, ρ1⟩, h1, hq2⟩ := bindS hq1
  refine ⟨c, E, ρ, o1, ρ1, hK, hp, hR, h1, ?_⟩
  cases o1 with
  | inl o => cases hq2; exact q
  | inr ex =>
    have hq2 : (if ex.cls = cn ∧ ex.fld = fld ∧ i < ρ1.length then some (Out.rt (.v (.tuple [cd, ex.val])), ρ1.set i none) else none) = some (out, ρ') := hq2
    split at hq2
    · rename_i he
      cases hq2
      intro cls a0 σ' H' P x
      obtain ⟨C', dd, z, y1, y2, y3, y4, y5⟩ := x
      have eC : C' = C := by
        have e := y1
        rw [show X.mg ex.cls = some (.ref C) by rw [he.1]; exact T.at_] at e
        have e2 := Option.some.inj e
        cases e2
        rfl
      subst eC
      refine ⟨by rw [y2]; exact T.exm, fun a na => ?_⟩
      have hlen : i < σ'.length := by rw [← P.2.len]; exact he.2.2
      refine ⟨.ref a, List.getElem?_set_self hlen, rfl, y2, dd, [(fld, z)], z, y3, by rw [← he.2.1]; exact y4, by simp [List.lookup], ?_⟩
      refine ⟨by rw [sizeLine_eq]; simp, fun p hp2 => ?_⟩
      obtain ⟨rb, sb⟩ := P.2.blank (i := i) (x := some (.ref a)) (by rw [hp]; exact np)
      have kk : Keeps H' (OE ρ1 σ' E) H' (OE (ρ1.set i none) (σ'.set i (some (.ref a))) E) := sb.keeps
      have rr : Reps c.K H' (OE (ρ1.set i none) (σ'.set i (some (.ref a))) E) [cd, ex.val] [v, z] := .cons (hvr _ _ _) (.cons (y5.mono kk) .nil)
      obtain ⟨g, rt⟩ := resTup (oe_there rb) rr hp2
      exact q (.ref p) _ _ ⟨⟨(P.1.trans sb).trans g.stp, rb.grow g⟩, rt⟩
    · cases hq2
end
end Z
namespace Z
open PySem PySem.Spec L2
open PyProof.Rows hiding St

/-! ## from the text to evaluator functions that may end in an error -/
structure TabX where
  fn : Str → Option FnX
  kw : Str → List Str → Option (List Nat)
  cl : Str → Option Str
def TabX.nil : TabX := ⟨fun _ => none, fun _ _ => none, fun _ => none⟩
def TabX.add (T : TabX) (x : Str) (F : FnX) (kw : List Str → Option (List Nat)) : TabX := ⟨fun y => if y = x then some F else T.fn y, fun y ks => if y = x then kw ks else T.kw y ks, T.cl⟩
def TabX.addC (T : TabX) (x fld : Str) : TabX := ⟨T.fn, T.kw, fun y => if y = x then some fld else T.cl y⟩
structure TabXOk (k : Nat) (T : TabX) (P : Program) (w : World) (K : PySem.W.Frag) (mg : Str → Option Value) (base : Heap) : Prop where
  fn : ∀ x F, T.fn x = some F → ∃ f fd ps, mg x = some (.ref f) ∧ PySem.W.keepIn K (.ref f) = true ∧ Binds K fd ps [] ∧ FnOk P w K mg base (L2.CX P w) k f fd ps (spX K mg F) ∧ ∀ ks pm, T.kw x ks = some pm → KwOk K fd ps ks 0 pm
  cl : ∀ x fld, T.cl x = some fld → ∃ C fI fd gv, ClsOk P w K mg base 1 x fld C fI fd gv
section
variable {k : Nat} {T : TabX} {P : Program} {w : World} {K : PySem.W.Frag} {mg : Str → Option Value} {base : Heap}
theorem TabXOk.nil : TabXOk k .nil P w K mg base := ⟨fun _ _ h => (nomatch h), fun _ _ h => (nomatch h)⟩
theorem TabXOk.mono {j : Nat} (t : TabXOk k T P w K mg base) (h : k ≤ j) : TabXOk j T P w K mg base :=
  ⟨fun x F e => let ⟨f, fd, ps, h1, h2, h3, h4, h5⟩ := t.fn x F e; ⟨f, fd, ps, h1, h2, h3, h4.mono h, h5⟩, t.cl⟩
theorem TabXOk.add (t : TabXOk k T P w K mg base) {x : Str} {F : FnX} {kw : List Str → Option (List Nat)} {f : Addr} {fd : FuncData} {ps : List Str} (hm : mg x = some (.ref f)) (hk : PySem.W.keepIn K (.ref f) = true) (hb : Binds K fd ps []) (hF : FnOk P w K mg base (L2.CX P w) k f fd ps (spX K mg F))
    (hw : ∀ ks pm, kw ks = some pm → KwOk K fd ps ks 0 pm) : TabXOk k (T.add x F kw) P w K mg base := by
  refine ⟨fun y G e => ?_, t.cl⟩
  have e : (if y = x then some F else T.fn y) = some G := e
  split at e
  · rename_i q
    cases e
    subst q
    refine ⟨f, fd, ps, hm, hk, hb, hF, fun ks pm q => hw ks pm ?_⟩
    have q : (if y = y then kw ks else T.kw y ks) = some pm := q
    rwa [if_pos rfl] at q
  · rename_i q
    obtain ⟨f', fd', ps', h1, h2, h3, h4, h5⟩ := t.fn y G e
    refine ⟨f', fd', ps', h1, h2, h3, h4, fun ks pm q' => h5 ks pm ?_⟩
    have q' : (if y = x then kw ks else T.kw y ks) = some pm := q'
    rwa [if_neg q] at q'
theorem TabXOk.addC (t : TabXOk k T P w K mg base) {x fld : Str} {C fI : Addr} {fd : FuncData} {gv : Str} (h : ClsOk P w K mg base 1 x fld C fI fd gv) : TabXOk k (T.addC x fld) P w K mg base := by
  refine ⟨t.fn, fun y g e => ?_⟩
  have e : (if y = x then some fld else T.cl y) = some g := e
  split at e
  · rename_i q
    cases e
    subst q
    exact ⟨C, fI, fd, gv, h⟩
  · exact t.cl y g e
end
section
variable (T : Tab) (TX : TabX) (N : List Str) (c : Co) (pr : List Nat) (sc : Scope)
/-- does it call a def that may raise -/
def hasX : Nat → Expr → Bool
  | n + 1, .Call (.Name x _) (e :: _) [] _ => (TX.fn x).isSome || hasX n e
  | _, .Call (.Name x _) _ _ _ => (TX.fn x).isSome
  | n + 1, .Attribute e _ _ => hasX n e
  | n + 1, .IfExp _ a b _ => hasX n a || hasX n b
  | n + 1, .Tuple [_, b] _ _ => hasX n b
  | _, _ => false
def attrOk : Expr → Bool
  | .Call (.Name _ _) [] [] _ => false
  | _ => true
theorem attr_base {e : Expr} {nm : Str} {env : Env} {w : Sem Value} (h : attrOk e = true) : attributeBase e nm env w = w := by
  unfold attributeBase
  split
  · cases h
  · rfl
theorem bltB_mem {x : Str} {g : List D → Option RV} (h1 : bltB x = some g) : x ∈ bltNames := by
  unfold bltB at h1
  split at h1
  · rename_i e; rw [e]; decide
  · unfold bltB0 at h1
    repeat' split at h1
    all_goals first
      | (rename_i e; rw [e]; decide)
      | cases h1
def cXc (e : Expr) : Option MX := match e with
  | .Call (.Name x p) es kws pos => match TX.fn x with
    | some F => if isGl sc x then match es, kws with
        | e :: es', [] => (cTs c sc (e :: es')).bind fun fs => some (xCall F fs)
        | [], kw :: kws' => (cKw c sc (kw :: kws')).bind fun g => (TX.kw x g.2).bind fun pm => some (xCallK F g.2.length pm g.1)
        | _, _ => none
      else none
    | none => (c.e sc (.Call (.Name x p) es kws pos)).bind fun f => some (xN f)
  | e => (c.e sc e).bind fun f => some (xN f)
def cXe : Nat → Expr → Option MX
  | n + 1, .Call (.Name x p) (e :: es) [] pos => if hasX TX n e && (TX.fn x).isNone then
        if isGl sc x && (e :: es).all notStar && ((T.fn x).isSome || (bltB x).isSome) then (cXe n e).bind fun f => some (xOnly f) else none
      else cXc TX c sc (.Call (.Name x p) (e :: es) [] pos)
  | n + 1, .Attribute e nm pos => if hasX TX n e && attrOk e then (cXe n e).bind fun f => some (xOnly f) else cXc TX c sc (.Attribute e nm pos)
  | n + 1, .IfExp t a b _ => (c.b sc t).bind fun ft => (cXe n a).bind fun fa => (cXe n b).bind fun fb => some (xIf ft fa fb)
  | n + 1, .Tuple [a, b] _ _ => if notStar a && notStar b then (c.e sc a).bind fun fa => (cXe n b).bind fun fb => some (xTup2 fa fb) else none
  | _, e => cXc TX c sc e
def cXss (f : Stmt → Option SX) : List Stmt → Option SX
  | [] => some (sxN sNil)
  | s :: r => (f s).bind fun a => (cXss f r).bind fun b => some (sxSeq a b)
def cXo (fuel : Nat) (n : Nat) (st : Stmt) : Option SX := (cS N c pr sc fuel n st).bind fun f => some (sxN f)
def cXs (fuel : Nat) : Nat → Stmt → Option SX
  | 0, _ => none
  | n + 1, st => match st with
    | .Raise (some (.Call (.Name cn p1) [e] [] p2)) none pos => if isGl sc cn && notStar e then (TX.cl cn).bind fun fld => (c.e sc e).bind fun f => some (sxRaise cn fld f) else none
    | .Expr e pos => if hasX TX n e && notComp e then (cXe T TX c sc n e).bind fun f => some (sxDrop f) else cXo N c pr sc fuel n (.Expr e pos)
    | .Return (some e) pos => if hasX TX n e then (cXe T TX c sc n e).bind fun f => some (sxRet f) else cXo N c pr sc fuel n (.Return (some e) pos)
    | .If t as bs _ => (c.b sc t).bind fun ft => (cXss (cXs fuel n) as).bind fun fa => (cXss (cXs fuel n) bs).bind fun fb => some (sxIf ft fa fb)
    | st => cXo N c pr sc fuel n st
/-- a def that is one try: the body, the class, the field, the constant, the name, the class's text -/
def cTry (fuel n : Nat) : List Stmt → Option (SX × Str × Str × D × Nat)
  | [.Try body (.ExceptHandler (some (.Name cn _)) (some nm) [.Return (some (.Tuple [.Constant kc _ _, .Attribute (.Name nm2 _) fld _] _ _)) _] _ :: _) [] [] _] =>
    if isGl sc cn && decide (nm2 = nm) && decide (sc.names.lookup nm = some .local) && okNm nm && decide (TX.cl cn = some fld) then (cXss (cXs T TX N c pr sc fuel n) body).bind fun b => (cC kc).bind fun cd => (ixOf N nm).bind fun i => if pr.contains i then none else some (b, cn, fld, cd, i) else none
  | _ => none
end
section
variable {k : Nat} {T : Tab} {TX : TabX} {N : List Str} {sc : Scope} {X : Cx} {c : Co} {pr : List Nat} {W : WX}
theorem cXc_ok (S : CoOk k T N c) (C : Ctx k T N sc X) (tx : TabXOk k TX X.prog X.w X.K X.mg X.base) (tk : Takes X W) {e : Expr} {f : MX} (h : cXc TX c sc e = some f) : PE X e (tX X W f) := by
  unfold cXc at h
  split at h
  · rename_i x p es kws pos
    split at h
    · rename_i F hF
      split at h
      · rename_i hg
        obtain ⟨g1, g2, g3⟩ := C.gl hg
        obtain ⟨f0, fd, ps, m1, m2, m3, m4, m5⟩ := tx.fn x F hF
        split at h
        · rename_i e1 es1
          obtain ⟨fs, h1, h⟩ := bindS h
          cases h
          obtain ⟨i1, i2⟩ := cTs_ok S C h1
          exact zx_call m4 tk C.room g1 m1 m2 m3 i1 g2 (star_ok (by simp at i2; exact i2.1)) (plain_ok (by simp at i2; simpa using i2.2))
        · rename_i kw kws1
          obtain ⟨g, h1, h⟩ := bindS h
          obtain ⟨pm, h2, h⟩ := bindS h
          cases h
          obtain ⟨k1, k2, k3, k4⟩ := cKw_ok S C (pos := pos) h1
          exact zx_callK m4 tk C.room g1 m1 m2 (m5 _ _ h2) k1 k2 k3 g2 k4
        · cases h
      · cases h
    · obtain ⟨g, h1, h⟩ := bindS h
      cases h
      exact zx_n (S.e C h1)
  · obtain ⟨g, h1, h⟩ := bindS h
    cases h
    exact zx_n (S.e C h1)
/-- what comes behind a first argument that raises -/
theorem pa_never {es : List Expr} : PA X es (fun _ _ _ => False) := ⟨fun _ _ _ _ _ _ _ h => h.elim⟩
theorem only_read {g : MX} {σ : L2.St} {H : Hp} {Q Q' : VK} (hq : tX X W (xOnly g) σ H Q) : tX X W g σ H Q' := by
  obtain ⟨c, E, ρ, out, ρ', hK, hR, hf, q⟩ := hq
  obtain ⟨⟨o, ρ1⟩, h1, hf⟩ := bindS hf
  cases o with
  | inl d => cases hf
  | inr e => cases hf; exact ⟨c, E, ρ, .inr e, ρ1, hK, hR, h1, q⟩
theorem zx_arg {g : MX} {x : Str} {f : Addr} {e : Expr} {es : List Expr} {p pos : Pos} (hg : Gl X x) (hm : X.mg x = some (.ref f)) (hk : PySem.W.keepIn X.K (.ref f) = true) (he : PE X e (tX X W g)) (hdb : (x == ("__debug__" : Str)) = false)
    (hs : starEach (e :: es) X.env = (false, eval e X.env) :: starEach es X.env) (hpl : (backTo pos (starEach es X.env)).any (·.1) = false) : PE X (.Call (.Name x p) (e :: es) [] pos) (tX X W (xOnly g)) := by
  refine ⟨fun pins s σ H Q I hq => ?_⟩
  refine wpAny_Call_Name_kw (ld_glob I hg hm ?_ hdb)
  exact PySem.W.callWith_K (h₀ := X.base) I.ok.mod.kin hk (thn ((pa_cons he (pa_never (X := X) (es := es)) hs).run pos pins s σ H (fun _ _ => False) I (only_read hq)) fun us s1 ⟨vs, H1, I1, r, q⟩ => q.elim) hs hpl
theorem zx_argB {g : MX} {x : Str} {e : Expr} {es : List Expr} {p pos : Pos} (hu : X.A.units + 66 < cLine) (hc : X.calm = true) {gb : List D → Option RV} (hb : bltB x = some gb) (hg : Gl X x) (hm : X.mg x = none) (he : PE X e (tX X W g)) (hdb : (x == ("__debug__" : Str)) = false) (hn : x ≠ "__name__")
    (hs : starEach (e :: es) X.env = (false, eval e X.env) :: starEach es X.env) (hpl : (backTo pos (starEach es X.env)).any (·.1) = false) : PE X (.Call (.Name x p) (e :: es) [] pos) (tX X W (xOnly g)) := by
  have ha := pa_cons he (pa_never (X := X) (es := es)) hs
  rcases bltB_ok hu hc hb with ⟨id, b1, b2⟩ | ⟨T, b1, b2⟩
  · exact ⟨fun pins s σ H Q I hq => (pe_callB b2 hg hm b1 ha hn hdb hs hpl).run pins s σ H Q I (only_read hq)⟩
  · exact ⟨fun pins s σ H Q I hq => (pe_callTy b2 hg hm b1 ha hn hdb hs hpl).run pins s σ H Q I (only_read hq)⟩
theorem zx_attr {g : MX} {e : Expr} {nm : Str} {pos : Pos} (he : PE X e (tX X W g)) (hb : attributeBase e nm X.env (eval e X.env) = eval e X.env) : PE X (.Attribute e nm pos) (tX X W (xOnly g)) :=
  ⟨fun pins s σ H Q I hq => attr_of hb (thn (he.run pins s σ H (fun _ _ => False) I (only_read hq)) fun u s1 ⟨x, H1, I1, r, q⟩ => q.elim)⟩
theorem cXe_ok (S : CoOk k T N c) (C : Ctx k T N sc X) (tx : TabXOk k TX X.prog X.w X.K X.mg X.base) (tk : Takes X W) : ∀ (n : Nat) {e : Expr} {f : MX}, cXe T TX c sc n e = some f → PE X e (tX X W f) := by
  intro n
  induction n with
  | zero =>
    intro e f h
    unfold cXe at h
    exact cXc_ok S C tx tk h
  | succ n ih =>
    intro e f h
    unfold cXe at h
    split at h
    · rename_i n1 x p e0 es0 pos e1
      cases e1
      split at h
      · rename_i hx
        split at h
        · rename_i hc
          rw [Bool.and_eq_true, Bool.and_eq_true, Bool.or_eq_true] at hc
          obtain ⟨⟨c1, c2⟩, c3⟩ := hc
          obtain ⟨fa, h1, h⟩ := bindS h
          cases h
          obtain ⟨g1, g2, g3⟩ := C.gl c1
          have i2 := c2
          rw [List.all_cons, Bool.and_eq_true] at i2
          by_cases ht : (T.fn x).isSome = true
          · obtain ⟨F, hF⟩ := Option.isSome_iff_exists.mp ht
            obtain ⟨f0, fd, ps, m1, m2, m3, m4, m5⟩ := C.tab.fn x F hF
            exact zx_arg g1 m1 m2 (ih h1) g2 (star_ok i2.1) (plain_ok i2.2)
          · have c4 := c3.resolve_left ht
            obtain ⟨gb, hgb⟩ := Option.isSome_iff_exists.mp c4
            exact zx_argB C.hu0 C.calm hgb g1 (C.tab.blt x (bltB_mem hgb)) (ih h1) g2 g3 (star_ok i2.1) (plain_ok i2.2)
        · cases h
      · exact cXc_ok S C tx tk h
    · rename_i n1 e0 nm pos e1
      cases e1
      split at h
      · rename_i hx
        rw [Bool.and_eq_true] at hx
        obtain ⟨fa, h1, h⟩ := bindS h
        cases h
        exact zx_attr (ih h1) (attr_base hx.2)
      · exact cXc_ok S C tx tk h
    · rename_i n1 t a b p e1
      cases e1
      obtain ⟨ft, h1, h⟩ := bindS h
      obtain ⟨fa, h2, h⟩ := bindS h
      obtain ⟨fb, h3, h⟩ := bindS h
      cases h
      exact zx_if (S.b C h1) (ih h2) (ih h3)
    · rename_i n1 a b p1 p2 e1
      cases e1
      split at h
      · rename_i hs
        rw [Bool.and_eq_true] at hs
        obtain ⟨fa, h1, h⟩ := bindS h
        obtain ⟨fb, h2, h⟩ := bindS h
        cases h
        exact zx_tup2 (S.e C h1) (ih h2) (star_ok hs.1) (star_ok hs.2)
      · cases h
    · exact cXc_ok S C tx tk h
theorem cXss_ok {F : Stmt → Option SX} (ih : ∀ {st : Stmt} {s : SX}, F st = some s → PS X st (tXS X W pr s)) : ∀ {sts : List Stmt} {s : SX}, cXss F sts = some s → PSs X sts (tXS X W pr s)
  | [], s, h => by cases h; exact xs_nil
  | st :: sts, s, h => by
    obtain ⟨a, h1, h⟩ := bindS h
    obtain ⟨b, h2, h⟩ := bindS h
    cases h
    exact xs_cons (ih h1) (cXss_ok ih h2)
theorem cXo_ok (S : CoOk k T N c) (C : CtS k T N sc X) {fuel n : Nat} {st : Stmt} {s : SX} (h : cXo N c pr sc fuel n st = some s) : PS X st (tXS X W pr s) := by
  obtain ⟨f, h1, h⟩ := bindS h
  cases h
  exact xs_n (cS_ok S C n h1)
theorem cXs_ok (S : CoOk k T N c) (C : CtS k T N sc X) (tx : TabXOk k TX X.prog X.w X.K X.mg X.base) (tk : Takes X W) (hk : 2 ≤ k) {fuel : Nat} : ∀ (n : Nat) {st : Stmt} {s : SX}, cXs T TX N c pr sc fuel n st = some s → PS X st (tXS X W pr s) := by
  intro n
  induction n with
  | zero => intro st s h; cases h
  | succ n ih =>
    intro st s h
    unfold cXs at h
    split at h
    · rename_i cn p1 e p2 pos
      split at h
      · rename_i hc
        rw [Bool.and_eq_true] at hc
        obtain ⟨fld, h1, h⟩ := bindS h
        obtain ⟨f, h2, h⟩ := bindS h
        cases h
        obtain ⟨C0, fI, fd, gv, T0⟩ := tx.cl cn fld h1
        obtain ⟨g1, g2, g3⟩ := C.toCtx.gl hc.1
        exact xs_raise T0 C.calm tk (C.room.mono hk) g1 g2 (S.e C.toCtx h2) (star_ok hc.2)
      · cases h
    · rename_i e pos
      split at h
      · rename_i hc
        rw [Bool.and_eq_true] at hc
        obtain ⟨f, h1, h⟩ := bindS h
        cases h
        exact xs_drop (cXe_ok S C.toCtx tx tk n h1) (swap_ok hc.2)
      · exact cXo_ok S C h
    · split at h
      · obtain ⟨f, h1, h⟩ := bindS h
        cases h
        exact xs_ret (cXe_ok S C.toCtx tx tk n h1)
      · exact cXo_ok S C h
    · obtain ⟨ft, h1, h⟩ := bindS h
      obtain ⟨fa, h2, h⟩ := bindS h
      obtain ⟨fb, h3, h⟩ := bindS h
      cases h
      exact xs_if (S.b C.toCtx h1) (cXss_ok ih h2) (cXss_ok ih h3)
    · exact cXo_ok S C h
end
section
variable {k : Nat} {T : Tab} {TX : TabX} {P : Program} {w : World} {K : PySem.W.Frag} {mg : Str → Option Value} {base : Heap}
/-- a def that may raise -/
theorem def_okX {x qual : Str} {st : Stmt} {f : Addr} {fd : FuncData} {N ps : List Str} {body : SX} {m n fuel : Nat} (t : TabOk k T P w K mg base) (tx : TabXOk k TX P w K mg base) (hk : 2 ≤ k) (F : Fun K x qual st f fd) (S : FnScope N ps (defScope st)) (hN : ps.length ≤ N.length)
    (hc : cXss (cXs T TX N (co T N m) [] (defScope st) fuel n) (defBody st) = some body) : FnOk P w K mg base (L2.CX P w) (k + 1) f fd ps (spX K mg ⟨ps.length, runX N.length ps.length body⟩) := by
  refine zfnX F S hN fun cdv A outer s H E hr tk po => ?_
  have C : CtS k T N (defScope st) (cxOf (L2.CX P w) P w K mg base N qual (defScope st) f cdv A outer s H E) := by
    refine ⟨⟨rfl, S.nd, rfl, hr, po, fun x kd h => ⟨fun _ => h, fun e => .inl (e ▸ h)⟩, fun _ _ => rfl, t⟩, rfl, ?_⟩
    show (if (defScope st).kind.isAnnotationScope then ScopeKind.function else (defScope st).kind) = _
    rw [S.kind]; rfl
  exact cXss_ok (fun h => cXs_ok (co_ok m) C tx tk hk n h) hc
/-- a def whose body is one try -/
theorem def_try {x qual : Str} {st : Stmt} {f : Addr} {fd : FuncData} {N ps : List Str} {mask : List Bool} {body : SX} {cn fld : Str} {cd : D} {i m n fuel : Nat} (t : TabOk k T P w K mg base) (tx : TabXOk k TX P w K mg base) (hk : 2 ≤ k) (F : Fun K x qual st f fd) (S : FnScope N ps (defScope st)) (hm : mask.length = ps.length) (hN : ps.length ≤ N.length)
    (hc : cTry T TX N (co T N m) (prOf 0 mask) (defScope st) fuel n (defBody st) = some (body, cn, fld, cd, i)) : FnOk P w K mg base CX0 (k + 1) f fd ps (spF K ⟨mask, runF N.length mask (sSeq (sTry cn fld cd i body) sNil)⟩) := by
  refine zfn F S hm hN fun cdv A outer s H E hr => ?_
  unfold cTry at hc
  split at hc
  · rename_i bd cn' q1 nm kc y1 y2 nm2 y3 fld' y4 y5 y6 y7 y8 more y9 hb
    split at hc
    · rename_i hg
      simp only [Bool.and_eq_true, decide_eq_true_eq, Bool.not_eq_true'] at hg
      obtain ⟨⟨⟨⟨g1, g2⟩, g3⟩, g4⟩, g6⟩ := hg
      subst g2
      obtain ⟨b, h1, hc⟩ := bindS hc
      obtain ⟨cd', h2, hc⟩ := bindS hc
      obtain ⟨i', h3, hc⟩ := bindS hc
      split at hc
      · cases hc
      · rename_i np
        cases hc
        rw [hb]
        obtain ⟨C0, fI, fdI, gv, T0⟩ := tx.cl _ _ g6
        unfold okNm at g4
        simp only [Bool.and_eq_true, Bool.not_eq_true'] at g4
        have gl : Gl (cxOf CX0 P w K mg base N qual (defScope st) f cdv A outer s H E).nox cn ∧ (cn == ("__debug__" : Str)) = false := by
          have C : CtS k T N (defScope st) (cxOf CX0 P w K mg base N qual (defScope st) f cdv A outer s H E).nox := by
            refine ⟨⟨rfl, S.nd, rfl, hr, PassesOwn.never, fun x kd h => ⟨fun _ => h, fun e => .inl (e ▸ h)⟩, fun _ _ => rfl, t⟩, rfl, ?_⟩
            show (if (defScope st).kind.isAnnotationScope then ScopeKind.function else (defScope st).kind) = _
            rw [S.kind]; rfl
          obtain ⟨e1, e2, e3⟩ := C.toCtx.gl g1
          exact ⟨e1, e2⟩
        refine zs_cons (zs_try (X := (cxOf CX0 P w K mg base N qual (defScope st) f cdv A outer s H E).nox) (n := nm2) T0 rfl rfl S.nd (ixOf_ok h3) g3 gl.1 gl.2 g4.1.1 g4.1.2 (ncont np) h2 (fun W pn xe tk po => ?_) (fun _ _ _ => rfl)) zs_nil
        have C : CtS k T N (defScope st) ((cxOf CX0 P w K mg base N qual (defScope st) f cdv A outer s H E).nox.tr pn xe) := by
          refine ⟨⟨rfl, S.nd, rfl, hr, po, fun x kd h => ⟨fun _ => h, fun e => .inl (e ▸ h)⟩, fun _ _ => rfl, t⟩, rfl, ?_⟩
          show (if (defScope st).kind.isAnnotationScope then ScopeKind.function else (defScope st).kind) = _
          rw [S.kind]; rfl
        exact cXss_ok (fun h => cXs_ok (X := (cxOf CX0 P w K mg base N qual (defScope st) f cdv A outer s H E).nox.tr pn xe) (co_ok m) C tx tk hk n h) h1
    · cases hc
  · cases hc
end
end Z
namespace Z
open PySem PySem.Spec L2
open PyProof.Rows hiding St
open He

/-! ## what the head's looks at an own error say -/
theorem clsB_ok {K : PySem.W.Frag} {C : Addr} (h : clsB K C = true) : ∃ nm q N bs bm sn sub ab col dd k0 k1 k2 k3 k5, K.lookup C = some (excClassObj nm q C N bs bm true sn sub ab col dd k0 k1 k2 k3 k5 "ValueError.__new__") ∧ PySem.HandSPX.refsVE bm = true := by
  unfold clsB at h
  split at h
  · rename_i c dd cd sl ho
    simp only [Bool.and_eq_true, decide_eq_true_eq] at h
    obtain ⟨h1, h2, h3⟩ := h
    split at h3
    · rename_i C' bm k0 k1 k2 k3 n k5 hm hsl
      simp only [Bool.and_eq_true, beq_iff_eq, Bool.not_eq_true'] at h3
      obtain ⟨e1, e2, e3, e4⟩ := h3
      obtain ⟨nm, bs, mro, ns, qn, hd, sn, sub, ab, col, del⟩ := cd
      dsimp only at hm e3 h2
      have es : sl = #[k0, k1, k2, k3, some (.builtin n), k5] := by
        cases sl
        simpa using hsl
      subst hm es h1 e1 e2 e3 h2
      exact ⟨nm, qn, ns, bs, bm, sn, sub, ab, col, dd, k0, k1, k2, k3, k5, ho, e4⟩
    · cases h3
  · cases h
theorem codB_ok {K : PySem.W.Frag} {file : Str} {v : Value} (h : codB K file v = true) : ∃ cda cl d vs sl tf f, v = .ref cda ∧ K.lookup cda = some ⟨cl, d, .fields vs, sl⟩ ∧ vs[2]? = some (.str f tf) ∧ (file == f) = true := by
  unfold codB at h
  split at h
  · rename_i c
    split at h
    · rename_i cl d vs sl ho
      split at h
      · rename_i x y f tf r hl
        refine ⟨c, cl, d, vs, sl, tf, f, rfl, ho, ?_, h⟩
        rw [← Array.getElem?_toList, hl]; rfl
      · cases h
    · cases h
  · cases h
theorem celB_ok {K : PySem.W.Frag} {C : Addr} {l : List (Str × Addr)} (h : celB K C l = true) : ∃ n c cl d sl, l = [(n, c)] ∧ K.lookup c = some ⟨cl, d, .cell (some (.ref C)), sl⟩ := by
  unfold celB at h
  split at h
  · rename_i n c
    split at h
    · rename_i cl d a sl ho
      have e : a = C := by simpa using h
      subst e
      exact ⟨n, c, cl, d, sl, rfl, ho⟩
    · cases h
  · cases h
theorem cls_of {P : Program} {w : World} {K : PySem.W.Frag} {mg : Str → Option Value} {base h : Heap} {file : Str} {d : ClsD} (X : K.In h) (G : h.Ns mainGlobals mg) (T : InitT d.st d.fld d.gv) (c : d.ok K file = true) (e : iniW K d = d.val) (hP : (P.main.file : Str) = file) (ht : (P.main.scope.names.lookup ("super" : Str)).isSome = false)
    (bi : ∀ (kV doc pm : Value) (an : Option Addr) (cdv ct : Value) (cc : Addr) (us : List Value), us.length = 2 → bindArgs (PySem.W.ksFn "__init__" d.qual (defArgs d.st) (defBody d.st) (defScope d.st) .none kV doc pm an cdv ct cc) ⟨us, []⟩ = pure ((["self", d.gv] : List Str).zip us)) :
    ∃ fd, ClsOk P w K mg base 1 d.x d.fld (d.C K) (d.fI K) fd d.gv := by
  unfold ClsD.ok at c
  simp only [Bool.and_eq_true, decide_eq_true_eq] at c
  obtain ⟨c1, c2, c3, c4, c5, c6, c7, c8, c9, c10, c11, c12, c13, c14, c15, c16, c17⟩ := c
  have oex : OexC K (d.C K) := ⟨clsB_ok c4, eqO_ok c11, c12, c13, c14⟩
  unfold fnB at c3
  unfold iniW at e
  split at c3
  · rename_i cl od fd osl ho
    rw [ho] at e
    simp only [Bool.and_eq_true, decide_eq_true_eq] at c3
    obtain ⟨f1, f2, f3, f4, f5⟩ := c3
    obtain ⟨n1, n2, n3, n4, n5, n6, n7, n8, n9, n10, n11, n12, n13, n14, n15⟩ := fd
    have e2 : (some (n1, n2, n3, n4, n5, n6, n7.map (·.1), n15) : IniW) = (some ("__init__", d.qual, defArgs d.st, FuncBody.stmts (defBody d.st), defScope d.st, mainGlobals, ["__class__"], builtinsNs) : IniW) := e
    simp only [Option.some.injEq, Prod.mk.injEq] at e2
    obtain ⟨h1, h2, h3, h4, h5, h6, h7, h8⟩ := e2
    obtain ⟨cda, ccl, ccd, vs, csl, tf, fl, g1, g2, g3, g4⟩ := codB_ok f3
    obtain ⟨nn, cc, ecl, ecd, esl, g5, g6⟩ := celB_ok f4
    dsimp only at g1 g5 f2 f5
    subst g1 g5
    have e3 : nn = "__class__" := by
      simpa using h7
    have e4 : n8 = .none := by
      cases n8 <;> first | rfl | cases f5
    subst h1 h2 h3 h4 h5 h6 h8 e3 f1 e4
    have IK : InitK P K (d.C K) (d.fI K) cc cda d.qual d.st d.fld _ := ⟨oex, c5, eqO_ok c6, eqO_ok c7, c8, c9, eqO_ok c10, ⟨_, _, _, .none, n9, n10, n11, n12, n14, rfl, ho⟩, f2, ⟨ccl, ccd, vs, csl, tf, fl, g2, g3, by rw [hP]; exact g4⟩, ⟨ecl, ecd, esl, g6⟩, ht⟩
    have hs : mg "super" = none := PySem.W.mg_none_of X G (eqO_ok c17)
    exact ⟨_, PySem.W.mg_of X G (eqO_ok c1), oex, eqO_ok c2, by show (List.lookup (d.fI K) K).map (·.cls) = _; rw [ho]; rfl, Binds.all fun us hl => bi _ _ _ _ _ _ _ us hl, init_fn T IK hs, xfB_ok c15, eqO_ok c6, c16⟩
  · cases c3
theorem all_at {es : List ClsD} {K : PySem.W.Frag} {file : Str} (h : es.all (ClsD.ok K file) = true) (i : Nat) {q : ClsD} (e : es[i]? = some q := by rfl) : q.ok K file = true := List.all_eq_true.mp h q (List.mem_of_getElem? e)
theorem map_at {es : List ClsD} {K : PySem.W.Frag} (h : es.map (iniW K) = es.map ClsD.val) (i : Nat) {q : ClsD} (e : es[i]? = some q := by rfl) : iniW K q = q.val := by
  have e2 : (es.map (iniW K))[i]? = (es.map ClsD.val)[i]? := by rw [h]
  rw [List.getElem?_map, List.getElem?_map, e] at e2
  exact Option.some.inj e2
end Z
namespace Z
open PySem PySem.Spec L2
open PyProof.Rows hiding St

/-! ## try: .., except clauses with and without a name, one behind the other; what none of them takes is not let out -/
def Dg (D : Ends) (i : Nat) : Ends := ⟨fun σ' H' => D.nx (σ'.set i none) H', D.rt, fun σ' H' => D.bk (σ'.set i none) H', fun σ' H' => D.ct (σ'.set i none) H'⟩
abbrev Cls1 := Value × Option Nat × (Addr → Value → Option Addr → TS)
def wN (K : PySem.W.Frag) (D : Ends) : List Cls1 → WX
  | [] => fun _ _ _ _ => False
  | (c, i, ts) :: r => fun cls d σ H => ∃ b, PySem.W.exmOne K cls c = some b ∧ (b = true → ∀ a, H a = none → match i with
      | none => ts a cls d D σ H
      | some i => ts a cls d (Dg D i) (σ.set i (some (.ref a))) H) ∧ (b = false → wN K D r cls d σ H)
inductive HdN (X : Cx) : List ExceptHandler → List Cls1 → Prop
  | nil : HdN X [] []
  | un {x : Str} {c : Value} {ts : Addr → Value → Option Addr → TS} {b0 : Stmt} {suite : List Stmt} {np pos' : Pos} {hds : List ExceptHandler} {l : List Cls1} (hc : Names X x c)
      (hsu : ∀ (a : Addr) (oe : Obj) (cls : Value) (d : Option Addr) (pn : List (Addr × Obj)), Zc cls d oe → (∃ vs, oe.data = .fields vs) → PSs (X.suite a ((a, oe) :: pn)) (b0 :: suite) (ts a cls d)) (r : HdN X hds l) :
      HdN X (.ExceptHandler (some (.Name x np)) none (b0 :: suite) pos' :: hds) ((c, none, ts) :: l)
  | nm {x n : Str} {i : Nat} {c : Value} {ts : Addr → Value → Option Addr → TS} {b0 : Stmt} {suite : List Stmt} {np pos' : Pos} {hds : List ExceptHandler} {l : List Cls1} (hi : X.N[i]? = some n) (hl : X.env.kindOf n = some .local) (hc : Names X x c)
      (hsu : ∀ (a : Addr) (oe : Obj) (cls : Value) (d : Option Addr) (pn : List (Addr × Obj)), Zc cls d oe → (∃ vs, oe.data = .fields vs) → PSs (X.suite a ((a, oe) :: pn)) (b0 :: suite) (ts a cls d)) (r : HdN X hds l) :
      HdN X (.ExceptHandler (some (.Name x np)) (some n) (b0 :: suite) pos' :: hds) ((c, some i, ts) :: l)
section
variable {X : Cx} {body : List Stmt} {h0 : ExceptHandler} {hds : List ExceptHandler} {l : List Cls1} {pos : Pos} {tb : WX → TS}
theorem ps_tryN (hs : X.stack = X.env :: X.outer) (hf : X.env.frame = some X.env.locals) (hN : X.N.Nodup)
    (hb : ∀ (W : WX) (pn : List (Addr × Obj)) (xe : Value → Shared → Prop), Takes (X.tr pn xe) W → PassesOwn (model X.prog X.w) X.A X.env xe → PSs (X.tr pn xe) body (tb W))
    (hh : HdN X (h0 :: hds) l) : PS X (.Try body (h0 :: hds) [] [] pos) (fun D σ H => tb (wN X.K D l) D σ H) := by
  refine ⟨fun pins s σ H D I hq => wpAny_Try_except ?_⟩
  have ok := I.ok
  have frames : X.A.frames = some (X.env :: X.outer) := ok.frames.trans (congrArg some hs)
  have run := (hb (wN X.K D l) (X.pn ++ pins) (fun e s1 => wpAny (model X.prog X.w) X.A (noteFrame e X.env) (fun _ s2 => wpAny (model X.prog X.w) X.A (setFlight e none) (fun _ s3 =>
      wpAny (model X.prog X.w) X.A (handleBy e X.env (h0 :: hds)) (SP X pins D) X.xe s3) X.xe s2) X.xe s1) ?take PassesOwn.looking).run [] s σ H D (I.toTry _) hq
  case take =>
    rintro u s' ⟨a, B, sI, pp, σ', H', cls, d, rfl, J0, hB, up0, sky, na, hos, hbare, wx⟩
    have J := J0.ofTry ok
    have sky2 : Sky B (X.env :: X.outer) a (Zc cls d) X.env.locals s'.heap := by rw [← hs]; exact sky
    show wpAny (model X.prog X.w) X.A (noteFrame (.ref a) X.env) _ _ _
    refine Sky.land Zc.steady frames hf sky2 fun hp fly up1 => ?_
    have J1 : Inv X pins σ' H' { s' with heap := hp } := J.landed hB fly.1 (up0.trans up1) hos hbare
    obtain ⟨o1, fs1, ho1, hz1, hd1⟩ := fly.there
    have away : ∀ b ∈ frs (X.env :: X.outer), b ≠ a := fun b hb e => by
      obtain ⟨_, o', e', hnf⟩ := fly.2.2.1.mem hb
      rw [e, ho1] at e'
      cases e'
      exact hnf _ hd1
    have nL : a ≠ X.env.locals := fun e => away X.env.locals (List.mem_filterMap.mpr ⟨X.env, List.mem_cons_self, hf⟩) e.symm
    have nF : a ∉ X.fs := fun hm => away a (by
      obtain ⟨v, hv, q⟩ := List.mem_filterMap.mp hm
      exact List.mem_filterMap.mpr ⟨v, List.mem_cons_of_mem _ hv, q⟩) rfl
    have S1 := J1.suite ho1 hd1 na nL nF
    have lookT : PySem.W.Looks (model X.prog X.w) hp (typeOf (.ref a)) cls := fun _ _ _ _ k q => wpAny_typeOf_ref (k _ _ ho1) (hz1.1 ▸ q)
    have named : ∀ {x : Str} {c : Value} {q1 : Pos} {Q E : Value → Shared → Prop}, Names X x c → Q c { s' with heap := hp } → wpAny (model X.prog X.w) (X.A.mark (some (.ref a))) (eval (.Name x q1) X.env) Q E { s' with heap := hp } := fun {x c q1 Q E} hc q => by
      obtain ⟨g1, g2, g3⟩ := hc
      cases g3 with
      | inl m1 => exact ld_glob (X := X.suite a ((a, o1) :: (X.pn ++ pins))) S1 g1 m1 q g2
      | inr m1 => exact ld_blt (X := X.suite a ((a, o1) :: (X.pn ++ pins))) S1 g1 m1.1 m1.2.1 q m1.2.2 g2
    have go : ∀ {hds' : List ExceptHandler} {l' : List Cls1}, HdN X hds' l' → wN X.K D l' cls d σ' H' →
        wpAny (model X.prog X.w) X.A (handleBy (.ref a) X.env hds') (SP X pins D) X.xe { s' with heap := hp } := by
      intro hds' l' hk
      induction hk with
      | nil => exact fun w => w.elim
      | @un x c ts b0 suite np pos' hds2 l2 hc hsu r ih =>
        intro w
        obtain ⟨b, hb1, hyes, hno⟩ := w
        refine wpAny_handleBy_cons (codeAny_handlers_test ?_) (by intro q; cases q)
        have LM := PySem.W.exm_one (M := model X.prog X.w) (J1.kIn) lookT hb1
        refine named hc (LM.here ?_)
        cases b with
        | true =>
          refine codeAny_handlers_suite ?_
          refine HandSPX.lands_againZ fly fun hp2 fly2 up2 => ?_
          have J2 : Inv X pins σ' H' { s' with heap := hp2 } := J.landed hB fly2.1 ((up0.trans up1).trans up2) hos hbare
          obtain ⟨o2, fs2, ho2, hz2, hd2⟩ := fly2.there
          have S2 := J2.suite ho2 hd2 na nL nF
          refine wpAny_mono ((hsu a o2 cls d (X.pn ++ pins) hz2 ⟨_, hd2⟩).run [] _ _ H' _ S2 (hyes rfl a na)) (fun f s6 hsp => ?_) (fun _ _ z => False.elim z)
          cases f with
          | next => exact let ⟨σ6, H6, S6, q6⟩ := hsp; ⟨_, _, S6.unsuite ok, q6⟩
          | brk => exact let ⟨σ6, H6, S6, q6⟩ := hsp; ⟨_, _, S6.unsuite ok, q6⟩
          | cont => exact let ⟨σ6, H6, S6, q6⟩ := hsp; ⟨_, _, S6.unsuite ok, q6⟩
          | ret u => exact let ⟨v6, σ6, H6, S6, r6, q6⟩ := hsp; ⟨_, _, _, S6.unsuite ok, r6, q6⟩
        | false =>
          show wpAny _ X.A (handleBy (.ref a) X.env hds2) _ _ _
          exact ih (hno rfl)
      | @nm x n i c ts b0 suite np pos' hds2 l2 hi hl hc hsu r ih =>
        intro w
        obtain ⟨b, hb1, hyes, hno⟩ := w
        refine wpAny_handleBy_cons (codeAny_handlers_test ?_) (by intro q; cases q)
        have LM := PySem.W.exm_one (M := model X.prog X.w) (J1.kIn) lookT hb1
        refine named hc (LM.here ?_)
        cases b with
        | true =>
          refine codeAny_handlers_suite_as ?_
          refine HandSPX.lands_againZ fly fun hp2 fly2 up2 => ?_
          have J2 : Inv X pins σ' H' { s' with heap := hp2 } := J.landed hB fly2.1 ((up0.trans up1).trans up2) hos hbare
          obtain ⟨o2, fs2, ho2, hz2, hd2⟩ := fly2.there
          have S2 := J2.suite ho2 hd2 na nL nF
          refine store_ok (X := X.suite a ((a, o2) :: (X.pn ++ pins))) (v := .ref a) S2 hN hi (.inl hl) rfl (fun s5 S5 => ?_) (.inr hl)
          exact wpAny_mono ((hsu a o2 cls d (X.pn ++ pins) hz2 ⟨_, hd2⟩).run [] s5 _ H' _ S5 (hyes rfl a na)) (fun fl s6 h6 => sp_gone ok hN hi hl h6) fun _ _ z => z.elim
        | false =>
          show wpAny _ X.A (handleBy (.ref a) X.env hds2) _ _ _
          exact ih (hno rfl)
    exact go hh wx
  refine wpAny_mono run (fun fl s1 h1 => ?_) fun _ _ z => z
  have h2 := sp_same (pn := []) ok h1
  cases fl with
  | next => exact wpAny_execs_nil h2
  | _ => exact h2
end
end Z
namespace Z
open PySem PySem.Spec L2
open PyProof.Rows hiding St

/-! ## except suites that return something made of constants and of the error's field -/
abbrev SuE := Exn → Option D
structure ClsK (P : Program) (w : World) (K : PySem.W.Frag) (mg : Str → Option Value) (base : Heap) (cl : Str → Option Str) : Prop where
  cl : ∀ x fld, cl x = some fld → ∃ C fI fd gv, ClsOk P w K mg base 1 x fld C fI fd gv
/-- what an except suite knows -/
structure Fx (K : PySem.W.Frag) (mg : Str → Option Value) (cl : Str → Option Str) (i : Option Nat) (a : Addr) (cls : Value) (d : Option Addr) (ex : Exn) (O : AS) (σ : L2.St) (H : Hp) : Prop where
  slot : ∀ j, i = some j → σ[j]? = some (some (.ref a))
  kn : cl ex.cls = some ex.fld
  at_ : ExcAt K mg H O ex cls d
  al : ∀ b, O b → ∃ o, H b = some o
theorem Fx.grow {K : PySem.W.Frag} {mg : Str → Option Value} {cl : Str → Option Str} {i : Option Nat} {a : Addr} {cls : Value} {d : Option Addr} {ex : Exn} {O : AS} {σ : L2.St} {H H' : Hp} (h : Fx K mg cl i a cls d ex O σ H) (g : Grow H H') : Fx K mg cl i a cls d ex O σ H' :=
  ⟨h.slot, h.kn, h.at_.mono g.keeps fun b o _ e => g b o e, fun b q => let ⟨o, e⟩ := h.al b q; ⟨o, g b o e⟩⟩
def tSu (X : Cx) (cl : Str → Option Str) (i : Option Nat) (a : Addr) (cls : Value) (d : Option Addr) (f : SuE) : TE := fun σ H Q => ∃ ex O dd, Fx X.K X.mg cl i a cls d ex O σ H ∧ f ex = some dd ∧ ∀ z H', Grow H H' → Rep X.K H' O dd z → Q z H'
def suC (d : D) : SuE := fun _ => some d
def suF (fld : Str) : SuE := fun ex => if ex.fld = fld then some ex.val else none
def suT (f g : SuE) : SuE := fun ex => (f ex).bind fun x => (g ex).bind fun y => some (.tuple [x, y])
section
variable {X : Cx} {cl : Str → Option Str} {i : Option Nat} {a : Addr} {cls : Value} {d : Option Addr} {oe : Obj} {pn : List (Addr × Obj)} {e e2 : Expr} {f g : SuE} {pos pos2 : Pos} {x1 : Nat} {kc : Const} {cd : D} {fld n : Str} {j : Nat}
theorem su_c (h : cC kc = some cd) : PE (X.suite a ((a, oe) :: pn)) (.Constant kc x1 pos) (tSu X cl i a cls d (suC cd)) := by
  obtain ⟨v, hv, hvr⟩ := cC_v h
  refine ⟨fun pins s σ H Q I hq => (hv (X.suite a ((a, oe) :: pn)) x1 pos).run pins s σ H Q I ?_⟩
  obtain ⟨ex, O, dd, F, e1, q⟩ := hq
  cases e1
  exact q v H Grow.rfl (hvr _ _ _)
theorem su_f (T : ClsK X.prog X.w X.K X.mg X.base cl) (hz : Zc cls d oe) (hf : ∃ vs, oe.data = .fields vs) (hi : X.N[j]? = some n) (hl : X.env.kindOf n = some .local) (hnd : (n == ("__debug__" : Str)) = false) (hnc : (n == ("__classdict__" : Str)) = false) :
    PE (X.suite a ((a, oe) :: pn)) (.Attribute (.Name n pos2) fld pos) (tSu X cl (some j) a cls d (suF fld)) := by
  refine ⟨fun pins s σ H Q I hq => ?_⟩
  obtain ⟨ex, O, dd, F, e1, q⟩ := hq
  obtain ⟨C, fI, fd, gv, K0⟩ := T.cl _ _ F.kn
  obtain ⟨C2, b, z, m1, m2, m3, m4, m5⟩ := F.at_
  unfold suF at e1
  split at e1
  · rename_i ef
    cases e1
    have eC : C2 = C := by
      have e := K0.at_
      rw [m1] at e
      cases e; rfl
    subst eC
    have hno : PySem.W.findIn X.K (.ref C2) fld = some none := by rw [← ef]; exact K0.nof
    refine (pe_xf (X := X) (pos := pos) K0.xf hno hz hf (pe_var (X := X.suite a ((a, oe) :: pn)) (pos := pos2) hi (.inl hl) hnd hnc) rfl).run pins s σ H Q I ?_
    exact ⟨.ref a, F.slot j rfl, rfl, m2, b, [(ex.fld, z)], z, m3, m4, by rw [ef]; simp [List.lookup], q z H Grow.rfl m5⟩
  · cases e1
theorem su_t (ha : PE (X.suite a ((a, oe) :: pn)) e (tSu X cl i a cls d f)) (hb : PE (X.suite a ((a, oe) :: pn)) e2 (tSu X cl i a cls d g)) (h1 : starEach [e, e2] (X.suite a ((a, oe) :: pn)).env = (false, eval e (X.suite a ((a, oe) :: pn)).env) :: starEach [e2] (X.suite a ((a, oe) :: pn)).env) (h2 : starEach [e2] (X.suite a ((a, oe) :: pn)).env = (false, eval e2 (X.suite a ((a, oe) :: pn)).env) :: starEach [] (X.suite a ((a, oe) :: pn)).env) :
    PE (X.suite a ((a, oe) :: pn)) (.Tuple [e, e2] x1 pos) (tSu X cl i a cls d (suT f g)) := by
  refine ⟨fun pins s σ H Q I hq => (pe_tup (pa_cons ha (pa_cons hb pa_nil h2) h1)).run pins s σ H Q I ?_⟩
  obtain ⟨ex, O, dd, F, e1, q⟩ := hq
  obtain ⟨x, h1, e1⟩ := bindS e1
  obtain ⟨y, h2, e1⟩ := bindS e1
  cases e1
  refine ⟨ex, O, x, F, h1, fun z H1 g1 r1 => ⟨ex, O, y, F.grow g1, h2, fun z2 H2 g2 r2 => ⟨by rw [sizeLine_eq]; simp, fun p np => ?_⟩⟩⟩
  have rr : Reps X.K H2 O [x, y] [z, z2] := .cons (r1.mono g2.keeps) (.cons r2 .nil)
  obtain ⟨g3, rt⟩ := resTup (F.grow (g1.trans g2)).al rr np
  exact q (.ref p) _ ((g1.trans g2).trans g3) rt
end
/-- the suite's text -/
def cSu (nm : Option Str) : Nat → Expr → Option SuE
  | _, .Constant k _ _ => (cC k).bind fun d => some (suC d)
  | _, .Attribute (.Name n _) fld _ => if decide (nm = some n) then some (suF fld) else none
  | n + 1, .Tuple [a, b] _ _ => if notStar a && notStar b then (cSu nm n a).bind fun f => (cSu nm n b).bind fun g => some (suT f g) else none
  | _, _ => none
theorem cSu_ok {X : Cx} {cl : Str → Option Str} {i : Option Nat} {a : Addr} {cls : Value} {d : Option Addr} {oe : Obj} {pn : List (Addr × Obj)} {nm : Option Str} (T : ClsK X.prog X.w X.K X.mg X.base cl) (hz : Zc cls d oe) (hf : ∃ vs, oe.data = .fields vs)
    (hi : ∀ n, nm = some n → ∃ j, i = some j ∧ X.N[j]? = some n ∧ X.env.kindOf n = some .local ∧ (n == ("__debug__" : Str)) = false ∧ (n == ("__classdict__" : Str)) = false) :
    ∀ (m : Nat) {e : Expr} {f : SuE}, cSu nm m e = some f → PE (X.suite a ((a, oe) :: pn)) e (tSu X cl i a cls d f) := by
  intro m
  induction m with
  | zero =>
    intro e f h
    unfold cSu at h
    split at h
    · obtain ⟨cd, h1, h⟩ := bindS h
      cases h
      exact su_c h1
    · split at h
      · rename_i hn
        cases h
        obtain ⟨j, ej, h1, h2, h3, h4⟩ := hi _ (of_decide_eq_true hn)
        subst ej
        exact su_f T hz hf h1 h2 h3 h4
      · cases h
    · rename_i e1; cases e1
    · cases h
  | succ m ih =>
    intro e f h
    unfold cSu at h
    split at h
    · obtain ⟨cd, h1, h⟩ := bindS h
      cases h
      exact su_c h1
    · split at h
      · rename_i hn
        cases h
        obtain ⟨j, ej, h1, h2, h3, h4⟩ := hi _ (of_decide_eq_true hn)
        subst ej
        exact su_f T hz hf h1 h2 h3 h4
      · cases h
    · rename_i m1 x y p1 p2 e1
      cases e1
      split at h
      · rename_i hs
        rw [Bool.and_eq_true] at hs
        obtain ⟨fa, h1, h⟩ := bindS h
        obtain ⟨fb, h2, h⟩ := bindS h
        cases h
        exact su_t (ih h1) (ih h2) (star_ok hs.1) (star_ok hs.2)
      · cases h
    · cases h
/-! ## clauses -/
structure Cl where
  cn : Str
  i : Option Nat
  su : SuE
/-- which clause takes an error: bs the classes above all own ones -/
def pick (bs : List Str) (ex : Exn) : List Cl → Option Cl
  | [] => none
  | c :: r => if c.cn ∈ bs ∨ ex.cls = c.cn then some c else pick bs ex r
def sTryN (cl : Str → Option Str) (bs : List Str) (cs : List Cl) (b : SX) : SS := fun ρ => (b ρ).bind fun r => match r.1 with
  | .inl o => some (o, r.2)
  | .inr e => if cl e.cls = some e.fld then (pick bs e cs).bind fun c => (c.su e).bind fun d => match c.i with
      | none => some (.rt (.v d), r.2)
      | some i => if i < r.2.length then some (.rt (.v d), r.2.set i none) else none
    else none
/-- what the classes must say of one another -/
structure PairK (K : PySem.W.Frag) (mg : Str → Option Value) (cl : Str → Option Str) (bs : List Str) : Prop where
  own : ∀ x y fx fy, cl x = some fx → cl y = some fy → ∃ C C', mg x = some (.ref C) ∧ mg y = some (.ref C') ∧ PySem.W.exmOne K (.ref C) (.ref C') = some (decide (x = y))
  base : ∀ x b fx, cl x = some fx → b ∈ bs → ∃ C B, mg x = some (.ref C) ∧ mg b = some (.ref B) ∧ PySem.W.exmOne K (.ref C) (.ref B) = some true
theorem pick_some {bs : List Str} {ex : Exn} : ∀ {cs : List Cl} {c : Cl}, pick bs ex cs = some c → c ∈ cs
  | [], _, h => by cases h
  | c0 :: r, c, h => by
    unfold pick at h
    split at h
    · cases h; exact List.mem_cons_self
    · exact List.mem_cons_of_mem _ (pick_some h)
section
variable {X : Cx} {pr : List Nat} {k : Nat} {cl : Str → Option Str} {bs : List Str} {body : List Stmt} {b : SX} {hds : List ExceptHandler} {cs : List Cl} {h0 : ExceptHandler} {pos : Pos}
/-- a clause's text and what it does -/
inductive ClOk (X : Cx) (cl : Str → Option Str) (bs : List Str) (pr : List Nat) : List ExceptHandler → List Cl → Prop
  | nil : ClOk X cl bs pr [] []
  | un {cn : Str} {e : Expr} {f : SuE} {m : Nat} {p1 p2 p3 : Pos} {hds : List ExceptHandler} {cs : List Cl} (hg : Gl X cn) (hdb : (cn == ("__debug__" : Str)) = false) (hc : (∃ fl, cl cn = some fl) ∨ cn ∈ bs) (he : cSu none m e = some f) (r : ClOk X cl bs pr hds cs) :
      ClOk X cl bs pr (.ExceptHandler (some (.Name cn p1)) none [.Return (some e) p2] p3 :: hds) (⟨cn, none, f⟩ :: cs)
  | nm {cn n : Str} {i : Nat} {e : Expr} {f : SuE} {m : Nat} {p1 p2 p3 : Pos} {hds : List ExceptHandler} {cs : List Cl} (hg : Gl X cn) (hdb : (cn == ("__debug__" : Str)) = false) (hc : (∃ fl, cl cn = some fl) ∨ cn ∈ bs) (hi : X.N[i]? = some n) (hl : X.env.kindOf n = some .local)
      (hnd : (n == ("__debug__" : Str)) = false) (hnc : (n == ("__classdict__" : Str)) = false) (np : i ∉ pr) (he : cSu (some n) m e = some f) (r : ClOk X cl bs pr hds cs) :
      ClOk X cl bs pr (.ExceptHandler (some (.Name cn p1)) (some n) [.Return (some e) p2] p3 :: hds) (⟨cn, some i, f⟩ :: cs)
/-- the readings of the clauses -/
def clW (X : Cx) (cl : Str → Option Str) (mg : Str → Option Value) : List Cl → List Cls1
  | [] => []
  | c :: r => ((mg c.cn).getD .none, c.i, fun a cls d => tSeq (tRet (tSu X cl c.i a cls d c.su)) tNext) :: clW X cl mg r
theorem clOk_hd (T : ClsK X.prog X.w X.K X.mg X.base cl) (PK : PairK X.K X.mg cl bs) (x0 : Str) (f0 : Str) (hx0 : cl x0 = some f0) (h : ClOk X cl bs pr hds cs) : HdN X hds (clW X cl X.mg cs) := by
  have names : ∀ {cn : Str}, Gl X cn → (cn == ("__debug__" : Str)) = false → ((∃ fl, cl cn = some fl) ∨ cn ∈ bs) → Names X cn ((X.mg cn).getD .none) := fun {cn} hg hdb hc => by
    have : ∃ C, X.mg cn = some (.ref C) := by
      rcases hc with ⟨fl, h⟩ | h
      · obtain ⟨C, _, _, _, K0⟩ := T.cl _ _ h
        exact ⟨C, K0.at_⟩
      · obtain ⟨_, B, _, e, _⟩ := PK.base _ _ _ hx0 h
        exact ⟨B, e⟩
    obtain ⟨C, e⟩ := this
    exact ⟨hg, hdb, .inl (by rw [e]; rfl)⟩
  induction h with
  | nil => exact .nil
  | un hg hdb hc he r ih =>
    exact .un (names hg hdb hc) (fun a oe cls d pn hz hf => pss_cons (ps_ret (cSu_ok T hz hf (fun n e => by cases e) _ he)) pss_nil) ih
  | nm hg hdb hc hi hl hnd hnc np he r ih =>
    exact .nm hi hl (names hg hdb hc) (fun a oe cls d pn hz hf => pss_cons (ps_ret (cSu_ok T hz hf (fun n e => by cases e; exact ⟨_, rfl, hi, hl, hnd, hnc⟩) _ he)) pss_nil) ih
theorem zs_tryN (T : ClsK X.prog X.w X.K X.mg X.base cl) (PK : PairK X.K X.mg cl bs) (x0 : Str) (f0 : Str) (hx0 : cl x0 = some f0) (hs : X.stack = X.env :: X.outer) (hf : X.env.frame = some X.env.locals) (hN : X.N.Nodup)
    (hb : ∀ (W : WX) (pn : List (Addr × Obj)) (xe : Value → Shared → Prop), Takes (X.tr pn xe) W → PassesOwn (model X.prog X.w) X.A X.env xe → PSs (X.tr pn xe) body (tXS (X.tr pn xe) W pr b))
    (hh : ClOk X cl bs pr (h0 :: hds) cs) : PS X (.Try body (h0 :: hds) [] [] pos) (tS X pr (sTryN cl bs cs b)) := by
  refine ⟨fun pins s σ H Dd I hq => (ps_tryN (tb := fun W => tXS X W pr b) hs hf hN hb (clOk_hd T PK x0 f0 hx0 hh)).run pins s σ H Dd I ?_⟩
  obtain ⟨c, E, ρ, out, ρ', hK, hp, hR, hq1, q⟩ := hq
  obtain ⟨⟨o1, ρ1⟩, h1, hq2⟩ := bindS hq1
  refine ⟨c, E, ρ, o1, ρ1, hK, hp, hR, h1, ?_⟩
  cases o1 with
  | inl o => cases hq2; exact q
  | inr ex =>
    have hq2 : (if cl ex.cls = some ex.fld then (pick bs ex cs).bind fun c => (c.su ex).bind fun d => match c.i with
        | none => some (Out.rt (.v d), ρ1)
        | some i => if i < ρ1.length then some (Out.rt (.v d), ρ1.set i none) else none
      else none) = some (out, ρ') := hq2
    split at hq2
    · rename_i hk
      obtain ⟨c1, hpk, hq2⟩ := bindS hq2
      obtain ⟨dd, hsu, hq2⟩ := bindS hq2
      intro cls a0 σ' H' P x
      have key : ∀ {hds : List ExceptHandler} {cs : List Cl}, ClOk X cl bs pr hds cs → pick bs ex cs = some c1 → wN X.K Dd (clW X cl X.mg cs) cls a0 σ' H' := by
        intro hds cs hc
        induction hc with
        | nil => intro e; cases e
        | @un cn e f m p1 p2 p3 hds cs hg hdb hc he r ih =>
          intro hpk
          unfold pick at hpk
          show ∃ b, _
          obtain ⟨C0, dd0, z, y1, y2, y3, y4, y5⟩ := id x
          have mt : PySem.W.exmOne X.K cls ((X.mg cn).getD .none) = some (decide (cn ∈ bs ∨ ex.cls = cn)) := by
            by_cases hbs : cn ∈ bs
            · obtain ⟨C1, B, e1, e2, e3⟩ := PK.base _ _ _ hk hbs
              rw [y1] at e1; cases e1
              rw [e2, decide_eq_true (.inl hbs), y2]; exact e3
            · obtain ⟨fl, hfl⟩ := hc.resolve_right hbs
              obtain ⟨C1, B, e1, e2, e3⟩ := PK.own _ _ _ _ hk hfl
              rw [y1] at e1; cases e1
              rw [e2, y2, show decide (cn ∈ bs ∨ ex.cls = cn) = decide (ex.cls = cn) from by simp [hbs]]; exact e3
          refine ⟨_, mt, fun hy a na => ?_, fun hn => ?_⟩
          · rw [if_pos (of_decide_eq_true hy)] at hpk
            cases hpk
            cases hq2
            refine ⟨ex, _, dd, ⟨(fun j e => by cases e), hk, (by rw [← hK]; exact x), oe_there P.2⟩, hsu, fun zz H2 g r => ?_⟩
            exact q zz _ _ ⟨⟨P.1.trans g.stp, P.2.grow g⟩, by rw [hK]; exact r⟩
          · rw [if_neg (of_decide_eq_false hn)] at hpk
            exact ih hpk
        | @nm cn n i e f m p1 p2 p3 hds cs hg hdb hc hi hl hnd hnc np he r ih =>
          intro hpk
          unfold pick at hpk
          show ∃ b, _
          obtain ⟨C0, dd0, z, y1, y2, y3, y4, y5⟩ := id x
          have mt : PySem.W.exmOne X.K cls ((X.mg cn).getD .none) = some (decide (cn ∈ bs ∨ ex.cls = cn)) := by
            by_cases hbs : cn ∈ bs
            · obtain ⟨C1, B, e1, e2, e3⟩ := PK.base _ _ _ hk hbs
              rw [y1] at e1; cases e1
              rw [e2, decide_eq_true (.inl hbs), y2]; exact e3
            · obtain ⟨fl, hfl⟩ := hc.resolve_right hbs
              obtain ⟨C1, B, e1, e2, e3⟩ := PK.own _ _ _ _ hk hfl
              rw [y1] at e1; cases e1
              rw [e2, y2, show decide (cn ∈ bs ∨ ex.cls = cn) = decide (ex.cls = cn) from by simp [hbs]]; exact e3
          refine ⟨_, mt, fun hy a na => ?_, fun hn => ?_⟩
          · rw [if_pos (of_decide_eq_true hy)] at hpk
            cases hpk
            have hq2 : (if i < ρ1.length then some (Out.rt (.v dd), ρ1.set i none) else none) = some (out, ρ') := hq2
            split at hq2
            · rename_i hlen
              cases hq2
              obtain ⟨rb, sb⟩ := P.2.blank (i := i) (x := some (.ref a)) (by rw [hp]; exact np)
              have kk : Keeps H' (OE ρ1 σ' E) H' (OE (ρ1.set i none) (σ'.set i (some (.ref a))) E) := sb.keeps
              refine ⟨ex, OE (ρ1.set i none) (σ'.set i (some (.ref a))) E, dd, ⟨fun j e => ?_, hk, ?_, oe_there rb⟩, hsu, fun zz H2 g r => ?_⟩
              · cases e
                exact List.getElem?_set_self (by rw [← P.2.len]; exact hlen)
              · rw [← hK]; exact x.mono kk fun _ _ _ h => h
              · exact q zz _ _ ⟨⟨(P.1.trans sb).trans g.stp, rb.grow g⟩, by rw [hK]; exact r⟩
            · cases hq2
          · rw [if_neg (of_decide_eq_false hn)] at hpk
            exact ih hpk
      exact key hh hpk
    · cases hq2
end
end Z
namespace Z
open PySem PySem.Spec L2
open PyProof.Rows hiding St
open He

/-! ## defs with tries among their statements -/
def TabX.ofE : List ClsD → TabX
  | [] => .nil
  | d :: r => (TabX.ofE r).addC d.x d.fld
theorem ofE_mem : ∀ {es : List ClsD} {x f : Str}, (TabX.ofE es).cl x = some f → ∃ d ∈ es, d.x = x ∧ d.fld = f
  | [], _, _, h => by cases h
  | d :: r, x, f, h => by
    have h : (if x = d.x then some d.fld else (TabX.ofE r).cl x) = some f := h
    split at h
    · rename_i e
      cases h
      exact ⟨d, List.mem_cons_self, e.symm, rfl⟩
    · obtain ⟨d', h1, h2⟩ := ofE_mem h
      exact ⟨d', List.mem_cons_of_mem _ h1, h2⟩
theorem cls_mg {K : PySem.W.Frag} {mg : Str → Option Value} {h : Heap} {file : Str} {d : ClsD} (X : K.In h) (G : h.Ns mainGlobals mg) (c : d.ok K file = true) : mg d.x = some (.ref (d.C K)) := by
  unfold ClsD.ok at c
  rw [Bool.and_eq_true] at c
  exact PySem.W.mg_of X G (eqO_ok c.1)
theorem pairs_of {K : PySem.W.Frag} {mg : Str → Option Value} {h : Heap} {file : Str} {es : List ClsD} {bs : List Str} (X : K.In h) (G : h.Ns mainGlobals mg) (c : (es.all (ClsD.ok K file) && pairsB K es bs) = true) : PairK K mg (TabX.ofE es).cl bs := by
  rw [Bool.and_eq_true] at c
  obtain ⟨c1, c2⟩ := c
  have c1 := List.all_eq_true.mp c1
  unfold pairsB at c2
  have c2 := List.all_eq_true.mp c2
  refine ⟨fun x y fx fy hx hy => ?_, fun x b fx hx hb => ?_⟩
  · obtain ⟨d, hd, rfl, _⟩ := ofE_mem hx
    obtain ⟨e, he, rfl, _⟩ := ofE_mem hy
    have q := c2 d hd
    rw [Bool.and_eq_true] at q
    exact ⟨_, _, cls_mg X G (c1 d hd), cls_mg X G (c1 e he), of_decide_eq_true (List.all_eq_true.mp q.1 e he)⟩
  · obtain ⟨d, hd, rfl, _⟩ := ofE_mem hx
    have q := c2 d hd
    rw [Bool.and_eq_true] at q
    have r := List.all_eq_true.mp q.2 b hb
    rw [Bool.and_eq_true] at r
    exact ⟨_, _, cls_mg X G (c1 d hd), PySem.W.mg_of X G (eqO_ok r.1), of_decide_eq_true r.2⟩
section
variable (T : Tab) (TX : TabX) (N : List Str) (c : Co) (pr : List Nat) (sc : Scope) (bs : List Str)
def cCl : List ExceptHandler → Option (List Cl)
  | [] => some []
  | .ExceptHandler (some (.Name cn _)) none [.Return (some e) _] _ :: r => if isGl sc cn && ((TX.cl cn).isSome || decide (cn ∈ bs)) then (cSu none 8 e).bind fun f => (cCl r).bind fun l => some (⟨cn, none, f⟩ :: l) else none
  | .ExceptHandler (some (.Name cn _)) (some nm) [.Return (some e) _] _ :: r => if isGl sc cn && ((TX.cl cn).isSome || decide (cn ∈ bs)) && decide (sc.names.lookup nm = some .local) && okNm nm then
      (ixOf N nm).bind fun i => if pr.contains i then none else (cSu (some nm) 8 e).bind fun f => (cCl r).bind fun l => some (⟨cn, some i, f⟩ :: l) else none
  | _ => none
def cTS (fuel n : Nat) : Stmt → Option SS
  | .Try body (h0 :: hds) [] [] _ => (cXss (cXs T TX N c pr sc fuel n) body).bind fun b => (cCl TX N pr sc bs (h0 :: hds)).bind fun cs => some (sTryN TX.cl bs cs b)
  | st => cS N c pr sc fuel n st
end
theorem cCl_ok {k : Nat} {T : Tab} {TX : TabX} {N : List Str} {pr : List Nat} {sc : Scope} {bs : List Str} {X : Cx} (C : CtS k T N sc X) (hk : ∀ x, sc.names.lookup x = some .local → X.env.kindOf x = some .local) : ∀ {hds : List ExceptHandler} {cs : List Cl}, cCl TX N pr sc bs hds = some cs → ClOk X TX.cl bs pr hds cs := by
  intro hds
  induction hds with
  | nil => intro cs h; cases h; exact .nil
  | cons h0 hds ih =>
    intro cs h
    unfold cCl at h
    split at h
    · rename_i e; cases e
    · rename_i cn p1 e p2 p3 r e0
      cases e0
      split at h
      · rename_i hc
        simp only [Bool.and_eq_true, Bool.or_eq_true, decide_eq_true_eq] at hc
        obtain ⟨f, h1, h⟩ := bindS h
        obtain ⟨l, h2, h⟩ := bindS h
        cases h
        obtain ⟨g1, g2, _⟩ := C.toCtx.gl hc.1
        exact .un g1 g2 (hc.2.imp (fun q => Option.isSome_iff_exists.mp q) id) h1 (ih h2)
      · cases h
    · rename_i cn p1 nm e p2 p3 r e0
      cases e0
      split at h
      · rename_i hc
        simp only [Bool.and_eq_true, Bool.or_eq_true, decide_eq_true_eq] at hc
        obtain ⟨i, h3, h⟩ := bindS h
        split at h
        · cases h
        · rename_i np
          obtain ⟨f, h1, h⟩ := bindS h
          obtain ⟨l, h2, h⟩ := bindS h
          cases h
          obtain ⟨g1, g2, _⟩ := C.toCtx.gl hc.1.1.1
          have g4 := hc.2
          unfold okNm at g4
          simp only [Bool.and_eq_true, Bool.not_eq_true'] at g4
          exact .nm g1 g2 (hc.1.1.2.imp (fun q => Option.isSome_iff_exists.mp q) id) (by rw [C.toCtx.hN]; exact ixOf_ok h3) (hk _ hc.1.2) g4.1.1 g4.1.2 (ncont np) h1 (ih h2)
      · cases h
    · cases h
/-- a statement that is not covered gives no answer -/
def fb (f : Stmt → Option SS) : Stmt → Option SS := fun st => match f st with
  | some s => some s
  | none => some sBad
def fbX (f : Stmt → Option SX) : Stmt → Option SX := fun st => match f st with
  | some s => some s
  | none => some (sxN sBad)
theorem fb_ok {X : Cx} {pr : List Nat} {f : Stmt → Option SS} (ih : ∀ {st : Stmt} {s : SS}, f st = some s → PS X st (tS X pr s)) {st : Stmt} {s : SS} (h : fb f st = some s) : PS X st (tS X pr s) := by
  unfold fb at h
  split at h
  · rename_i e
    cases h
    exact ih e
  · cases h; exact zs_bad
theorem fbX_ok {X : Cx} {W : WX} {pr : List Nat} {f : Stmt → Option SX} (ih : ∀ {st : Stmt} {s : SX}, f st = some s → PS X st (tXS X W pr s)) {st : Stmt} {s : SX} (h : fbX f st = some s) : PS X st (tXS X W pr s) := by
  unfold fbX at h
  split at h
  · rename_i e
    cases h
    exact ih e
  · cases h; exact xs_n zs_bad
theorem def_okF {k : Nat} {T : Tab} {P : Program} {w : World} {K : PySem.W.Frag} {mg : Str → Option Value} {base : Heap} {x qual : Str} {st : Stmt} {f : Addr} {fd : FuncData} {N ps : List Str} {mask : List Bool} {body : SS} {m n fuel : Nat} (t : TabOk k T P w K mg base) (F : Fun K x qual st f fd) (S : FnScope N ps (defScope st)) (hm : mask.length = ps.length) (hN : ps.length ≤ N.length)
    (hc : cSs (fb (cS N (co T N m) (prOf 0 mask) (defScope st) fuel n)) (defBody st) = some body) : FnOk P w K mg base CX0 (k + 1) f fd ps (spF K ⟨mask, runF N.length mask body⟩) := by
  refine zfn F S hm hN fun cdv A outer s H E hr => ?_
  have C : CtS k T N (defScope st) (cxOf CX0 P w K mg base N qual (defScope st) f cdv A outer s H E).nox := by
    refine ⟨⟨rfl, S.nd, rfl, hr, PassesOwn.never, fun x kd h => ⟨fun _ => h, fun e => .inl (e ▸ h)⟩, fun _ _ => rfl, t⟩, rfl, ?_⟩
    show (if (defScope st).kind.isAnnotationScope then ScopeKind.function else (defScope st).kind) = _
    rw [S.kind]; rfl
  exact cSs_ok (fun h => fb_ok (fun h => cS_ok (co_ok m) C n h) h) hc
/-- a def that may raise -/
theorem def_okXF {k : Nat} {T : Tab} {TX : TabX} {P : Program} {w : World} {K : PySem.W.Frag} {mg : Str → Option Value} {base : Heap} {x qual : Str} {st : Stmt} {f : Addr} {fd : FuncData} {N ps : List Str} {body : SX} {m n fuel : Nat} (t : TabOk k T P w K mg base) (tx : TabXOk k TX P w K mg base) (hk : 2 ≤ k) (F : Fun K x qual st f fd) (S : FnScope N ps (defScope st)) (hN : ps.length ≤ N.length)
    (hc : cXss (fbX (cXs T TX N (co T N m) [] (defScope st) fuel n)) (defBody st) = some body) : FnOk P w K mg base (L2.CX P w) (k + 1) f fd ps (spX K mg ⟨ps.length, runX N.length ps.length body⟩) := by
  refine zfnX F S hN fun cdv A outer s H E hr tk po => ?_
  have C : CtS k T N (defScope st) (cxOf (L2.CX P w) P w K mg base N qual (defScope st) f cdv A outer s H E) := by
    refine ⟨⟨rfl, S.nd, rfl, hr, po, fun x kd h => ⟨fun _ => h, fun e => .inl (e ▸ h)⟩, fun _ _ => rfl, t⟩, rfl, ?_⟩
    show (if (defScope st).kind.isAnnotationScope then ScopeKind.function else (defScope st).kind) = _
    rw [S.kind]; rfl
  exact cXss_ok (fun h => fbX_ok (fun h => cXs_ok (co_ok m) C tx tk hk n h) h) hc
/-- a def with tries among its statements -/
theorem def_tryN {k : Nat} {T : Tab} {TX : TabX} {P : Program} {w : World} {K : PySem.W.Frag} {mg : Str → Option Value} {base : Heap} {bs : List Str} {x qual : Str} {st : Stmt} {f : Addr} {fd : FuncData} {N ps : List Str} {mask : List Bool} {body : SS} {m n fuel : Nat} (t : TabOk k T P w K mg base) (tx : TabXOk k TX P w K mg base) (PK : PairK K mg TX.cl bs) (x0 f0 : Str) (hx0 : TX.cl x0 = some f0) (hk : 2 ≤ k) (F : Fun K x qual st f fd) (S : FnScope N ps (defScope st)) (hm : mask.length = ps.length) (hN : ps.length ≤ N.length)
    (hc : cSs (cTS T TX N (co T N m) (prOf 0 mask) (defScope st) bs fuel n) (defBody st) = some body) : FnOk P w K mg base CX0 (k + 1) f fd ps (spF K ⟨mask, runF N.length mask body⟩) := by
  refine zfn F S hm hN fun cdv A outer s H E hr => ?_
  have C : CtS k T N (defScope st) (cxOf CX0 P w K mg base N qual (defScope st) f cdv A outer s H E).nox := by
    refine ⟨⟨rfl, S.nd, rfl, hr, PassesOwn.never, fun x kd h => ⟨fun _ => h, fun e => .inl (e ▸ h)⟩, fun _ _ => rfl, t⟩, rfl, ?_⟩
    show (if (defScope st).kind.isAnnotationScope then ScopeKind.function else (defScope st).kind) = _
    rw [S.kind]; rfl
  refine cSs_ok (fun {st0 s0} h => ?_) hc
  unfold cTS at h
  split at h
  · rename_i bd h0 hds pos
    obtain ⟨b, h1, h⟩ := bindS h
    obtain ⟨cs, h2, h⟩ := bindS h
    cases h
    refine zs_tryN (X := (cxOf CX0 P w K mg base N qual (defScope st) f cdv A outer s H E).nox) ⟨tx.cl⟩ PK x0 f0 hx0 rfl rfl S.nd (fun W pn xe tk po => ?_) (cCl_ok C (fun x h => h) h2)
    have C2 : CtS k T N (defScope st) ((cxOf CX0 P w K mg base N qual (defScope st) f cdv A outer s H E).nox.tr pn xe) := by
      refine ⟨⟨rfl, S.nd, rfl, hr, po, fun x kd h => ⟨fun _ => h, fun e => .inl (e ▸ h)⟩, fun _ _ => rfl, t⟩, rfl, ?_⟩
      show (if (defScope st).kind.isAnnotationScope then ScopeKind.function else (defScope st).kind) = _
      rw [S.kind]; rfl
    exact cXss_ok (fun h => cXs_ok (X := (cxOf CX0 P w K mg base N qual (defScope st) f cdv A outer s H E).nox.tr pn xe) (co_ok m) C2 tx tk hk n h) h1
  · exact cS_ok (co_ok m) C n h
end Z
namespace Z
open PySem PySem.Spec L2
open PyProof.Rows hiding St

/-! ## the raising functions applied: for simp -/
theorem x_runX (n k : Nat) (b : SX) (ds : List D) (h : ds.length = k) : runX n k b ds = ((b (ds.map (fun d => some (.v d)) ++ List.replicate (n - k) none)).bind fun r => match r.1 with
    | .inl (.rt (.v d)) => some (.inl d)
    | .inl .nx => some (.inl .none)
    | .inr e => some (.inr e)
    | _ => none) := if_pos h
theorem forL_cons (g : SG) (b : SS) (d : D) (ds : List D) (ρ : Rho) : forL g b (d :: ds) ρ = (g d ρ).bind fun ρ1 => (b ρ1).bind fun s => match s.1 with
    | .nx => forL g b ds s.2
    | .ct => forL g b ds s.2
    | .bk => some (.nx, s.2)
    | .rt v => some (.rt v, s.2) := rfl
section
variable {ρ : Rho}
theorem x_sxN (s : SS) : sxN s ρ = (s ρ).bind fun r => some (.inl r.1, r.2) := rfl
theorem x_sxIf (t : MB) (a b : SX) : sxIf t a b ρ = (t ρ).bind fun r => if r.1 then a r.2 else b r.2 := rfl
theorem x_sxRaise (cn fl : Str) (f : ME) : sxRaise cn fl f ρ = (f ρ).bind fun r => some (.inr ⟨cn, fl, r.1.d⟩, r.2) := rfl
theorem x_xN (f : ME) : xN f ρ = (f ρ).bind fun r => some (.inl r.1.d, r.2) := rfl
theorem x_xIf (t : MB) (f g : MX) : xIf t f g ρ = (t ρ).bind fun r => if r.1 then f r.2 else g r.2 := rfl
theorem x_xCall (F : FnX) (fs : MOs) : xCall F fs ρ = (fs ρ).bind fun r => (tvs r.1).bind fun ds => if ds.length = F.n then (F.run ds).bind fun o => some (o, r.2) else none := rfl
theorem x_xCallK (F : FnX) (m : Nat) (pm : List Nat) (gs : MOs) : xCallK F m pm gs ρ = (gs ρ).bind fun s => (tvs s.1).bind fun es => (permL es pm).bind fun xs => if decide (xs.length = F.n) && decide (es.length = m) then (F.run xs).bind fun o => some (o, s.2) else none := rfl
theorem x_sTryN1 {cl : Str → Option Str} {bs : List Str} {cs : List Cl} {b : SX} {ρ' : Rho} {o : Out} (h : b ρ = some (.inl o, ρ')) : sTryN cl bs cs b ρ = some (o, ρ') := by
  unfold sTryN; rw [h]; rfl
theorem x_sTryN2 {cl : Str → Option Str} {bs : List Str} {cs : List Cl} {b : SX} {ρ' : Rho} {e : Exn} {c : Cl} {d : D} {i : Nat} (h : b ρ = some (.inr e, ρ')) (hk : cl e.cls = some e.fld) (hp : pick bs e cs = some c) (hs : c.su e = some d) (hi : c.i = some i) (hl : i < ρ'.length) : sTryN cl bs cs b ρ = some (.rt (.v d), ρ'.set i none) := by
  unfold sTryN
  rw [h, Option.bind_some]
  dsimp only
  rw [if_pos hk, hp, Option.bind_some, hs, Option.bind_some, hi]
  dsimp only
  rw [if_pos hl]
end
end Z
namespace Z
open PySem PySem.Spec L2
open PyProof.Rows hiding St

/-! ## comprehensions over encoded things, of any law -/
theorem lcL_encA {α : Type} {vs : List Nat} {g : SG} {t : MB} {f : ME} {ρ0 : Rho} (enc : α → D) (h : α → D) : ∀ (l : List α) (acc : List D), acc.length + l.length ≤ 16777216 →
    (∀ x ∈ l, ∃ ρ1 ρ2 rv ρ3, g (enc x) ρ0 = some ρ1 ∧ t ρ1 = some (true, ρ2) ∧ f ρ2 = some (rv, ρ3) ∧ rv.d = h x ∧ wipeR ρ3 vs = ρ0) → lcL vs g t f (l.map enc) ρ0 acc = some (acc ++ l.map h, ρ0)
  | [], acc, _, _ => by rw [List.map_nil, List.map_nil, List.append_nil]; rfl
  | x :: l, acc, hl, st => by
    rw [List.length_cons] at hl
    obtain ⟨ρ1, ρ2, rv, ρ3, h1, h2, h3, h4, h5⟩ := st x List.mem_cons_self
    rw [List.map_cons]
    conv => lhs; unfold lcL
    rw [h1, Option.bind_some, h2, Option.bind_some]
    simp only [if_true, h3, Option.bind_some, decide_eq_true (show acc.length < 16777216 by omega), h4, h5]
    rw [lcL_encA enc h l _ (by rw [List.length_append, List.length_singleton]; omega) fun y hy => st y (List.mem_cons_of_mem _ hy), List.append_assoc]
    rfl
theorem lcL_enc {α : Type} {vs : List Nat} {g : SG} {t : MB} {f : ME} {ρ0 : Rho} (enc : α → D) (h : α → D) {l : List α} (hl : l.length ≤ 16777216)
    (step : ∀ x ∈ l, ∃ ρ1 ρ2 rv ρ3, g (enc x) ρ0 = some ρ1 ∧ t ρ1 = some (true, ρ2) ∧ f ρ2 = some (rv, ρ3) ∧ rv.d = h x ∧ wipeR ρ3 vs = ρ0) :
    lcL vs g t f (l.map enc) ρ0 [] = some (l.map h, ρ0) := by
  have := lcL_encA (vs := vs) (g := g) (t := t) (f := f) (ρ0 := ρ0) enc h l [] (by simpa using hl) step
  simpa using this
theorem upTo_range (n : Nat) : Z.upTo 0 n = (List.range n).map fun i => .int (i : Int) := by
  unfold Z.upTo
  congr 1
  funext i
  rw [Int.zero_add]
theorem allB {α : Type} (p : α → Bool) (l : List α) : allD [.list (l.map fun x => .bool (p x))] = some (.v (.bool (l.all p))) := by
  rw [x_all (boolsOf_mp p l), List.all_map]; rfl
theorem anyB {α : Type} (p : α → Bool) (l : List α) : anyD [.list (l.map fun x => .bool (p x))] = some (.v (.bool (l.any p))) := by
  show (boolsOf _).map (fun bs => RV.v (.bool (bs.any id))) = _
  rw [boolsOf_mp p l, Option.map_some, List.any_map]; rfl
theorem any_str (l : List Str) (p : Str) : ((l.map PyData.str).any fun y => PyData.eqv y (.str p)) = decide (p ∈ l) := by
  induction l with
  | nil => simp
  | cons q l ih =>
    rw [List.map_cons, List.any_cons, ih, x_eqvS]
    by_cases h : q = p
    · simp [h]
    · have h' : ¬ p = q := fun e => h e.symm
      simp [h, h']
theorem noD_str (l : List Str) : noDicts (l.map PyData.str) = true := by
  induction l with
  | nil => rfl
  | cons q l ih => rw [List.map_cons, noDicts, ih]; rfl
theorem in_strL (p : Str) (l : List Str) : inD (.str p) (.list (l.map .str)) = some (.v (.bool (decide (p ∈ l)))) := by
  rw [← any_str]
  show (if okE (.str p) && noDicts (l.map PyData.str) then bl _ else none) = _
  rw [noD_str]; rfl
theorem in_strT (p : Str) (l : List Str) : inD (.str p) (.tuple (l.map .str)) = some (.v (.bool (decide (p ∈ l)))) := by
  rw [← any_str]
  show (if okE (.str p) && noDicts (l.map PyData.str) then bl _ else none) = _
  rw [noD_str]; rfl
theorem eqv_strs : ∀ (a c : List Str), PyData.eqvAll (a.map .str) (c.map .str) = decide (a = c)
  | [], [] => rfl
  | [], _ :: _ => rfl
  | _ :: _, [] => rfl
  | x :: a, y :: c => by
    rw [List.map_cons, List.map_cons, PyData.eqvAll, eqv_strs a c, x_eqvS]
    by_cases h : x = y <;> by_cases g : a = c <;> simp [h, g]
theorem okE_strL (l : List Str) : okE (.list (l.map .str)) = true := by
  have d : PyData.depthAll (l.map PyData.str) = 0 := by
    induction l with
    | nil => rfl
    | cons s l ih => rw [List.map_cons, PyData.depthAll, ih]; rfl
  unfold okE
  rw [noDict, noD_str, PyData.depth, d]; rfl
theorem eq_strs (a c : List Str) : eqD (.list (a.map .str)) (.list (c.map .str)) = some (.v (.bool (decide (a = c)))) := by
  unfold eqD
  rw [okE_strL, okE_strL, if_pos (by rfl)]
  have e : PyData.eqv (.list (a.map .str)) (.list (c.map .str)) = decide (a = c) := by
    simp only [PyData.eqv]
    exact eqv_strs a c
  rw [e]; rfl
theorem ne_strs (a c : List Str) : neD (.list (a.map .str)) (.list (c.map .str)) = some (.v (.bool (!decide (a = c)))) := by
  rw [x_neq _ _ (by rw [okE_strL, okE_strL]; rfl), eq_strs]; rfl
end Z
namespace Z
open PySem PySem.Spec L2
open PyProof.Rows hiding St

/-! ## a text's parts between the signs c: what Txt.split and Txt.join say, as lists of numbers -/
abbrev chs (s : Str) : List Nat := s.cps.toList
theorem chs_inj {a b : Str} (h : chs a = chs b) : a = b := by
  obtain ⟨⟨x⟩⟩ := a
  obtain ⟨⟨y⟩⟩ := b
  have h : x = y := h
  rw [h]
theorem chs_len (a : Str) : (chs a).length = a.length := by simp [Str.length]
theorem chs_app (a b : Str) : chs (a ++ b) = chs a ++ chs b := by
  show (a ++ b).cps.toList = _
  rw [Str.cps_append, Array.toList_append]
/-- glued by c -/
def glueN (c : Nat) : List (List Nat) → List Nat
  | [] => []
  | [x] => x
  | x :: y :: r => x ++ c :: glueN c (y :: r)
/-- cut at each c -/
def cutN (c : Nat) : List Nat → List (List Nat)
  | [] => [[]]
  | a :: l => if a = c then [] :: cutN c l else match cutN c l with
    | [] => [[a]]
    | p :: r => (a :: p) :: r
theorem cutN_cons (c a : Nat) (l : List Nat) : cutN c (a :: l) = if a = c then [] :: cutN c l else match cutN c l with
    | [] => [[a]]
    | p :: r => (a :: p) :: r := rfl
theorem cutN_ne (c : Nat) (l : List Nat) : cutN c l ≠ [] := by
  cases l with
  | nil => intro h; cases h
  | cons a l =>
    unfold cutN
    split
    · intro h; cases h
    · split <;> (intro h; cases h)
theorem cutN_free (c : Nat) : ∀ l : List Nat, c ∉ l → cutN c l = [l]
  | [], _ => rfl
  | a :: l, h => by
    have h1 : a ≠ c := fun e => h (by rw [e]; exact List.mem_cons_self)
    have ih := cutN_free c l fun q => h (List.mem_cons_of_mem _ q)
    rw [cutN_cons, if_neg h1, ih]
theorem cutN_app (c : Nat) : ∀ (p l : List Nat), c ∉ p → cutN c (p ++ c :: l) = p :: cutN c l
  | [], l, _ => by
    show cutN c (c :: l) = _
    rw [cutN_cons, if_pos rfl]
  | a :: p, l, h => by
    have h1 : a ≠ c := fun e => h (by rw [e]; exact List.mem_cons_self)
    have ih := cutN_app c p l fun q => h (List.mem_cons_of_mem _ q)
    show cutN c (a :: (p ++ c :: l)) = _
    rw [cutN_cons, if_neg h1, ih]
theorem cut_glue (c : Nat) : ∀ (ps : List (List Nat)), ps ≠ [] → (∀ p ∈ ps, c ∉ p) → cutN c (glueN c ps) = ps
  | [], h, _ => absurd rfl h
  | [x], _, h => cutN_free c x (h x List.mem_cons_self)
  | x :: y :: r, _, h => by
    have ih := cut_glue c (y :: r) (by simp) fun p hp => h p (List.mem_cons_of_mem _ hp)
    show cutN c (x ++ c :: glueN c (y :: r)) = _
    rw [cutN_app c x _ (h x List.mem_cons_self), ih]
theorem join_chs (c : Nat) : ∀ ps : List Str, chs (Str.join ⟨#[c]⟩ ps) = glueN c (ps.map chs)
  | [] => rfl
  | [x] => rfl
  | x :: y :: r => by
    have ih := join_chs c (y :: r)
    show chs (x ++ (⟨#[c]⟩ : Str) ++ Str.join ⟨#[c]⟩ (y :: r)) = chs x ++ c :: glueN c ((y :: r).map chs)
    rw [chs_app, chs_app, ih]
    show (chs x ++ [c]) ++ _ = _
    rw [List.append_assoc]; rfl
/-- a text's parts -/
theorem split_chs (x : Str) (c : Nat) : (Txt.split x ⟨#[c]⟩).map chs = cutN c (chs x) := by
  have e := StrLaws.join_split x ⟨#[c]⟩
  have f := StrLaws.split_free x c
  have n : (Txt.split x ⟨#[c]⟩).map chs ≠ [] := fun h => by
    have := split_pos x ⟨#[c]⟩
    have h2 := congrArg List.length h
    rw [List.length_map] at h2
    simp at h2
    rw [h2] at this
    simp at this
  have h := join_chs c (Txt.split x ⟨#[c]⟩)
  rw [e] at h
  rw [h, cut_glue c _ n]
  intro p hp
  obtain ⟨q, hq, rfl⟩ := List.mem_map.mp hp
  exact f q hq
theorem map_chs_inj : ∀ {a b : List Str}, a.map chs = b.map chs → a = b
  | [], [], _ => rfl
  | [], _ :: _, h => by simp at h
  | _ :: _, [], h => by simp at h
  | x :: a, y :: b, h => by
    rw [List.map_cons, List.map_cons, List.cons.injEq] at h
    rw [chs_inj h.1, map_chs_inj h.2]
theorem split_join {c : Nat} {ps : List Str} (h : ps ≠ []) (hf : ∀ p ∈ ps, c ∉ chs p) : Txt.split (Str.join ⟨#[c]⟩ ps) ⟨#[c]⟩ = ps := by
  apply map_chs_inj
  rw [split_chs, join_chs, cut_glue]
  · simpa using h
  · intro p hp
    obtain ⟨q, hq, rfl⟩ := List.mem_map.mp hp
    exact hf q hq
theorem txt_join (sep : Str) (ps : List Str) : Txt.join sep ps = Str.join sep ps := StrLaws.glued_eq_join sep ps
/-- each part is a sublist of the whole -/
theorem cutN_sub (c : Nat) : ∀ (l : List Nat) (p : List Nat), p ∈ cutN c l → p.Sublist l
  | [], p, h => by
    have h : p ∈ [([] : List Nat)] := h
    rw [List.mem_singleton.mp h]; exact List.Sublist.refl _
  | a :: l, p, h => by
    unfold cutN at h
    split at h
    · rcases List.mem_cons.mp h with e | h
      · rw [e]; exact List.nil_sublist _
      · exact (cutN_sub c l p h).cons _
    · split at h
      · rename_i e
        exact absurd e (cutN_ne c l)
      · rename_i q r e
        rcases List.mem_cons.mp h with e2 | h
        · rw [e2]
          exact (cutN_sub c l q (by rw [e]; exact List.mem_cons_self)).cons₂ _
        · exact (cutN_sub c l p (by rw [e]; exact List.mem_cons_of_mem _ h)).cons _
theorem split_sub {x p : Str} {c : Nat} (h : p ∈ Txt.split x ⟨#[c]⟩) : (chs p).Sublist (chs x) := by
  have : chs p ∈ (Txt.split x ⟨#[c]⟩).map chs := List.mem_map.mpr ⟨p, h, rfl⟩
  rw [split_chs] at this
  exact cutN_sub c _ _ this
theorem split_len_le {x p : Str} {c : Nat} (h : p ∈ Txt.split x ⟨#[c]⟩) : p.length ≤ x.length := by
  have := (split_sub h).length_le
  rwa [chs_len, chs_len] at this
theorem glueN_len (c : Nat) : ∀ ps : List (List Nat), (glueN c ps).length ≤ (ps.map List.length).sum + ps.length
  | [] => Nat.zero_le _
  | [x] => by simp [glueN]
  | x :: y :: r => by
    have := glueN_len c (y :: r)
    show (x ++ c :: glueN c (y :: r)).length ≤ _
    simp only [List.length_append, List.length_cons, List.map_cons, List.sum_cons] at this ⊢
    omega
theorem glueN_count (f : Nat → Bool) {c : Nat} (hc : f c = false) : ∀ ps : List (List Nat), (glueN c ps).countP f = (ps.map (List.countP f)).sum
  | [] => rfl
  | [x] => by simp [glueN]
  | x :: y :: r => by
    have := glueN_count f hc (y :: r)
    show (x ++ c :: glueN c (y :: r)).countP f = _
    rw [List.countP_append, List.countP_cons_of_neg (by rw [hc]; exact Bool.false_ne_true), this]
    simp
end Z
namespace K11
open PySem PySem.Spec L2 Z
open PyProof.Rows hiding St
def T0 : Tab := ((((((((Tab.nil.put "MOST_DAYS" (.int 4)).put "MOST_TERM" (.int 9)).put "NO" (.str "no")).put "YES" (.str "yes")).put "DEEDS" C_DEEDS).put "MOST_HOUSE" (.int 3)).put "MOST_LETTERS" (.int 6)).put "rules_follow" (fnD "rules_follow"))
theorem sc_figures : FnScope ["low", "high", "each"] ["low", "high"] (defScope s_figures) := ⟨rfl, rfl, rfl, by decide +kernel, rfl, by decide +kernel, by decide +kernel⟩
def kw_figures : Nat → List Str → Option (List Nat) := noKw
def q_figures_1 : ME :=
    (eB strD (osCons (oSl 2) osNil))
def b_figures : SS :=
    (sSeq (sRet (eLc [2] (iFn rng2 (osCons (oTv (eVar 0)) (osCons (oTv (eOp2 addD (oSl 1) (oTv (eC (.int 1))))) osNil))) (gN [] 2) bYes q_figures_1))
    sNil)
def F_figures : FnS := ⟨[false, false], runF 3 [false, false] b_figures⟩
theorem c_figures : cSs (fb (cS ["low", "high", "each"] (co T0 ["low", "high", "each"] 16) [] (defScope s_figures) 1000000 16)) (defBody s_figures) = some b_figures := by kernel_rfl
@[simp] theorem m_figures : F_figures.mask = [false, false] := rfl
theorem u_figures : F_figures.run = runF 3 [false, false] b_figures := rfl
def T1 : Tab := T0.add "figures" F_figures kw_figures
theorem sc_rules_follow : FnScope ["words"] ["words"] (defScope s_rules_follow) := ⟨rfl, rfl, rfl, by decide +kernel, rfl, by decide +kernel, by decide +kernel⟩
def kw_rules_follow : Nat → List Str → Option (List Nat) := noKw
def b_rules_follow : SS :=
    (sSeq (sIf (bOp2 eqD (oTv (eB lenD (osCons (oSl 0) osNil))) (oTv (eC (.int 0))))
    (sSeq (sRet (eCall F_figures (aTv (eC (.int 1)) (aTv (eC (.int 9)) aNil))))
    sNil)
    sNil)
    (sSeq (sIf (bOp2 ltD (oTv (eB lenD (osCons (oSl 0) osNil))) (oTv (eC (.int 6))))
    (sSeq (sRet (eCall F_figures (aTv (eC (.int 0)) (aTv (eC (.int 4)) aNil))))
    sNil)
    sNil)
    (sSeq (sIf (bOp2 eqD (oTv (eB lenD (osCons (oSl 0) osNil))) (oTv (eC (.int 6))))
    (sSeq (sRet (eCall F_figures (aTv (eC (.int 1)) (aTv (eC (.int 4)) aNil))))
    sNil)
    sNil)
    (sSeq (sRet (eIf (bOp2 eqD (oTv (eB lenD (osCons (oSl 0) osNil))) (oTv (eC (.int 7)))) (eLst (osCons (oTv (eC (.str "yes"))) (osCons (oTv (eC (.str "no"))) osNil))) (eLst osNil)))
    sNil))))
def F_rules_follow : FnS := ⟨[false], runF 1 [false] b_rules_follow⟩
theorem c_rules_follow : cSs (fb (cS ["words"] (co T1 ["words"] 16) [] (defScope s_rules_follow) 1000000 16)) (defBody s_rules_follow) = some b_rules_follow := by kernel_rfl
@[simp] theorem m_rules_follow : F_rules_follow.mask = [false] := rfl
theorem u_rules_follow : F_rules_follow.run = runF 1 [false] b_rules_follow := rfl
def T2 : Tab := T1.add "rules_follow" F_rules_follow kw_rules_follow
theorem sc_l_pool : FnScope ["script", "lap", "cell", "stirred", "each"] ["script", "lap"] (defScope s_l_pool) := ⟨rfl, rfl, rfl, by decide +kernel, rfl, by decide +kernel, by decide +kernel⟩
def kw_l_pool : Nat → List Str → Option (List Nat) := noKw
def q_l_pool_1 : SS :=
    (sSeq (sSet [] 3 (eOp2 modD (oTv (eB intD (osCons (oTv (eOp2 addD (oTv (eOp2 addD (oTv (eOp2 mulD (oSl 3) (oTv (eC (.int 38399))))) (oTv (eOp2 modD (oTv (eB intD (osCons (oSl 4) osNil))) (oTv (eC (.int 2147483587))))))) (oTv (eC (.int 27))))) osNil))) (oTv (eC (.int 2147483647)))))
    sNil)
def b_l_pool : SS :=
    (sSeq (sSet [] 2 (eIf (bOp2 ltD (oSl 1) (oTv (eB lenD (osCons (oSl 0) osNil)))) (eB intD (osCons (oTv (eOp2 ixD (oSl 0) (oSl 1))) osNil)) (eOp2 addD (oTv (eOp2 mulD (oTv (eC (.int 5769))) (oSl 1))) (oTv (eC (.int 427))))))
    (sSeq (sSet [] 3 (eOp2 addD (oTv (eC (.int 34019))) (oTv (eOp2 mulD (oTv (eC (.int 8175))) (oSl 1)))))
    (sSeq (sFor (iSeq (eSl (oSl 0) iNo (iSome (eC (.int 12))))) (gN [] 4) q_l_pool_1)
    (sSeq (sSet [] 3 (eOp2 modD (oTv (eB intD (osCons (oTv (eOp2 addD (oTv (eOp2 addD (oTv (eOp2 mulD (oSl 3) (oTv (eC (.int 63))))) (oTv (eOp2 mulD (oTv (eOp2 modD (oTv (eB intD (osCons (oSl 2) osNil))) (oTv (eC (.int 2147483587))))) (oTv (eC (.int 28991))))))) (oTv (eC (.int 11))))) osNil))) (oTv (eC (.int 2147483647)))))
    (sSeq (sRet (eLst (osCons (oTv (eIf (bOr (bOp2 ltD (oSl 2) (oTv (eC (.int 0)))) (bOp2 geD (oSl 2) (oTv (eOp2 powD (oTv (eC (.int 10))) (oTv (eC (.int 15))))))) (eB absD (osCons (oSl 2) osNil)) (eC (.int 0)))) (osCons (oTv (eVar 3)) (osCons (oTv (eC (.int 0))) osNil)))))
    sNil)))))
def F_l_pool : FnS := ⟨[false, false], runF 5 [false, false] b_l_pool⟩
theorem c_l_pool : cSs (fb (cS ["script", "lap", "cell", "stirred", "each"] (co T2 ["script", "lap", "cell", "stirred", "each"] 16) [] (defScope s_l_pool) 1000000 16)) (defBody s_l_pool) = some b_l_pool := by kernel_rfl
@[simp] theorem m_l_pool : F_l_pool.mask = [false, false] := rfl
theorem u_l_pool : F_l_pool.run = runF 5 [false, false] b_l_pool := rfl
def T3 : Tab := T2.add "_law_pool" F_l_pool kw_l_pool
theorem sc_l_below : FnScope ["pool", "many", "figure", "stirred"] ["pool", "many"] (defScope s_l_below) := ⟨rfl, rfl, rfl, by decide +kernel, rfl, by decide +kernel, by decide +kernel⟩
def kw_l_below : Nat → List Str → Option (List Nat) := noKw
def b_l_below : SS :=
    (sSeq (sIf (bOp2 gtD (oTv (eOp2 ixD (oSl 0) (oTv (eC (.int 0))))) (oTv (eC (.int 0))))
    (sSeq (sAsg (eB divmodD (osCons (oTv (eOp2 ixD (oSl 0) (oTv (eC (.int 0))))) (osCons (oSl 1) osNil))) (gTn 2 (gCons (gIx 0 (eC (.int 0))) (gCons (gN [0] 2) gNil))))
    (sSeq (sRetV [0] 2)
    sNil))
    sNil)
    (sSeq (sAsg (eOp2 addD (oTv (eOp2 ixD (oSl 0) (oTv (eC (.int 2))))) (oTv (eC (.int 1)))) (gIx 0 (eC (.int 2))))
    (sSeq (sSet [0] 3 (eOp2 modD (oTv (eB intD (osCons (oTv (eOp2 addD (oTv (eOp2 addD (oTv (eOp2 mulD (oTv (eOp2 ixD (oSl 0) (oTv (eC (.int 1))))) (oTv (eC (.int 46965))))) (oTv (eOp2 mulD (oTv (eC (.int 7911))) (oTv (eOp2 ixD (oSl 0) (oTv (eC (.int 2))))))))) (oTv (eC (.int 71))))) osNil))) (oTv (eC (.int 2147483563)))))
    (sSeq (sAsg (eOp2 modD (oTv (eB intD (osCons (oTv (eOp2 addD (oTv (eOp2 mulD (oSl 3) (oTv (eOp2 addD (oTv (eOp2 modD (oTv (eB intD (osCons (oSl 3) osNil))) (oTv (eC (.int 3989))))) (oTv (eC (.int 17537))))))) (oTv (eOp2 ixD (oSl 0) (oTv (eC (.int 2))))))) osNil))) (oTv (eC (.int 2147483563)))) (gIx 0 (eC (.int 1))))
    (sSeq (sRet (eOp2 modD (oTv (eB intD (osCons (oTv (eOp2 fdivD (oTv (eOp2 ixD (oSl 0) (oTv (eC (.int 1))))) (oTv (eC (.int 359))))) osNil))) (oSl 1)))
    sNil)))))
def F_l_below : FnS := ⟨[true, false], runF 4 [true, false] b_l_below⟩
theorem c_l_below : cSs (fb (cS ["pool", "many", "figure", "stirred"] (co T3 ["pool", "many", "figure", "stirred"] 16) [0] (defScope s_l_below) 1000000 16)) (defBody s_l_below) = some b_l_below := by kernel_rfl
@[simp] theorem m_l_below : F_l_below.mask = [true, false] := rfl
theorem u_l_below : F_l_below.run = runF 4 [true, false] b_l_below := rfl
def T4 : Tab := T3.add "_law_below" F_l_below kw_l_below
theorem sc_l_one : FnScope ["pool", "some"] ["pool", "some"] (defScope s_l_one) := ⟨rfl, rfl, rfl, by decide +kernel, rfl, by decide +kernel, by decide +kernel⟩
def kw_l_one : Nat → List Str → Option (List Nat) := noKw
def b_l_one : SS :=
    (sSeq (sRet (eOp2 ixD (oSl 1) (oTv (eCall F_l_below (aSl 0 (aTv (eB lenD (osCons (oSl 1) osNil)) aNil))))))
    sNil)
def F_l_one : FnS := ⟨[true, false], runF 2 [true, false] b_l_one⟩
theorem c_l_one : cSs (fb (cS ["pool", "some"] (co T4 ["pool", "some"] 16) [0] (defScope s_l_one) 1000000 16)) (defBody s_l_one) = some b_l_one := by kernel_rfl
@[simp] theorem m_l_one : F_l_one.mask = [true, false] := rfl
theorem u_l_one : F_l_one.run = runF 2 [true, false] b_l_one := rfl
def T5 : Tab := T4.add "_law_one" F_l_one kw_l_one
theorem sc_l_great_plan : FnScope ["pool", "some", "lap"] ["pool"] (defScope s_l_great_plan) := ⟨rfl, rfl, rfl, by decide +kernel, rfl, by decide +kernel, by decide +kernel⟩
def kw_l_great_plan : Nat → List Str → Option (List Nat) := noKw
def q_l_great_plan_1 : ME :=
    (eCall F_l_one (aSl 0 (aTv (eTup (osCons (oTv (eC (.int 0))) (osCons (oTv (eC (.int 4))) (osCons (oTv (eCall F_l_below (aSl 0 (aTv (eC (.int 5)) aNil)))) osNil)))) aNil)))
def b_l_great_plan : SS :=
    (sSeq (sSet [0] 1 (eLc [2] (iFn rng1 (osCons (oTv (eC (.int 5))) osNil)) (gN [] 2) bYes q_l_great_plan_1))
    (sSeq (sRet (eTup (osCons (oTv (eOp2 addD (oTv (eC (.int 1))) (oTv (eCall F_l_below (aSl 0 (aTv (eC (.int 9)) aNil)))))) (osCons (oTv (eOp2 ixD (oSl 1) (oTv (eC (.int 0))))) (osCons (oTv (eOp2 ixD (oSl 1) (oTv (eC (.int 1))))) (osCons (oTv (eOp2 ixD (oSl 1) (oTv (eC (.int 2))))) (osCons (oTv (eOp2 ixD (oSl 1) (oTv (eC (.int 3))))) (osCons (oTv (eOp2 ixD (oSl 1) (oTv (eC (.int 4))))) (osCons (oTv (eOp2 addD (oTv (eC (.int 1))) (oTv (eCall F_l_below (aSl 0 (aTv (eC (.int 4)) aNil)))))) (osCons (oTv (eOp2 eqD (oTv (eCall F_l_below (aSl 0 (aTv (eC (.int 2)) aNil)))) (oTv (eC (.int 0))))) osNil))))))))))
    sNil))
def F_l_great_plan : FnS := ⟨[true], runF 3 [true] b_l_great_plan⟩
theorem c_l_great_plan : cSs (fb (cS ["pool", "some", "lap"] (co T5 ["pool", "some", "lap"] 16) [0] (defScope s_l_great_plan) 1000000 16)) (defBody s_l_great_plan) = some b_l_great_plan := by kernel_rfl
@[simp] theorem m_l_great_plan : F_l_great_plan.mask = [true] := rfl
theorem u_l_great_plan : F_l_great_plan.run = runF 3 [true] b_l_great_plan := rfl
def T6 : Tab := T5.add "_law_great_plan" F_l_great_plan kw_l_great_plan
theorem sc_l_bent_text : FnScope ["pool", "text_there", "at", "way", "sign", "words", "spot", "some"] ["pool", "text_there"] (defScope s_l_bent_text) := ⟨rfl, rfl, rfl, by decide +kernel, rfl, by decide +kernel, by decide +kernel⟩
def kw_l_bent_text : Nat → List Str → Option (List Nat) := noKw
def b_l_bent_text : SS :=
    (sSeq (sPar [0] [2, 3] (aRv (eCall F_l_below (aSl 0 (aTv (eOp2 addD (oTv (eB lenD (osCons (oSl 1) osNil))) (oTv (eC (.int 1)))) aNil))) (aRv (eCall F_l_below (aSl 0 (aTv (eC (.int 9)) aNil))) aNil)))
    (sSeq (sSet [0] 4 (eCall F_l_one (aSl 0 (aTv (eC (.str " 0123459ynbhgwf-+_Ax\n\u0009")) aNil))))
    (sSeq (sIf (bOp2 eqD (oSl 3) (oTv (eC (.int 0))))
    (sSeq (sRet (eSl (oSl 1) iNo (iSome (eVar 2))))
    sNil)
    sNil)
    (sSeq (sIf (bOp2 eqD (oSl 3) (oTv (eC (.int 1))))
    (sSeq (sRet (eOp2 addD (oTv (eOp2 addD (oTv (eSl (oSl 1) iNo (iSome (eVar 2)))) (oSl 4))) (oTv (eSl (oSl 1) (iSome (eVar 2)) iNo))))
    sNil)
    sNil)
    (sSeq (sIf (bOp2 eqD (oSl 3) (oTv (eC (.int 2))))
    (sSeq (sRet (eOp2 addD (oTv (eSl (oSl 1) iNo (iSome (eVar 2)))) (oTv (eSl (oSl 1) (iSome (eOp2 addD (oSl 2) (oTv (eC (.int 1))))) iNo))))
    sNil)
    sNil)
    (sSeq (sIf (bOp2 eqD (oSl 3) (oTv (eC (.int 3))))
    (sSeq (sRet (eOp2 addD (oTv (eOp2 addD (oTv (eSl (oSl 1) iNo (iSome (eVar 2)))) (oSl 4))) (oTv (eSl (oSl 1) (iSome (eOp2 addD (oSl 2) (oTv (eC (.int 1))))) iNo))))
    sNil)
    sNil)
    (sSeq (sIf (bOp2 eqD (oSl 3) (oTv (eC (.int 4))))
    (sSeq (sRet (eOp2 addD (oSl 1) (oTv (eCall F_l_one (aSl 0 (aTv (eTup (osCons (oTv (eC (.str " "))) (osCons (oTv (eC (.str "\n"))) (osCons (oTv (eC (.str "0"))) (osCons (oTv (eC (.str " none"))) (osCons (oTv (eC (.str " yes"))) (osCons (oTv (eC (.str " 1"))) osNil))))))) aNil))))))
    sNil)
    sNil)
    (sSeq (sSet [0] 5 (eMt splitD (oSl 1) (osCons (oTv (eC (.str " "))) osNil)))
    (sSeq (sSet [0] 6 (eCall F_l_below (aSl 0 (aTv (eB lenD (osCons (oSl 5) osNil)) aNil))))
    (sSeq (sSet [0] 7 (eTup (osCons (oTv (eC (.str "0"))) (osCons (oTv (eC (.str "1"))) (osCons (oTv (eC (.str "2"))) (osCons (oTv (eC (.str "3"))) (osCons (oTv (eC (.str "4"))) (osCons (oTv (eC (.str "5"))) (osCons (oTv (eC (.str "9"))) (osCons (oTv (eC (.str "10"))) (osCons (oTv (eC (.str "18"))) (osCons (oTv (eC (.str "19"))) (osCons (oTv (eC (.str "01"))) (osCons (oTv (eC (.str "yes"))) (osCons (oTv (eC (.str "no"))) (osCons (oTv (eC (.str "none"))) (osCons (oTv (eC (.str "by"))) (osCons (oTv (eC (.str "free"))) (osCons (oTv (eC (.str "held"))) (osCons (oTv (eC (.str "grace"))) (osCons (oTv (eC (.str "hold"))) (osCons (oTv (eC (.str "wait"))) (osCons (oTv (eC (.str ""))) (osCons (oTv (eC (.str "no no"))) osNil))))))))))))))))))))))))
    (sSeq (sIf (bOp2 eqD (oSl 3) (oTv (eC (.int 5))))
    (sSeq (sRet (eMt mjoinD (oTv (eC (.str " "))) (osCons (oTv (eOp2 addD (oTv (eSl (oSl 5) iNo (iSome (eVar 6)))) (oTv (eSl (oSl 5) (iSome (eOp2 addD (oSl 6) (oTv (eC (.int 1))))) iNo)))) osNil)))
    sNil)
    sNil)
    (sSeq (sIf (bOp2 eqD (oSl 3) (oTv (eC (.int 6))))
    (sSeq (sRet (eMt mjoinD (oTv (eC (.str " "))) (osCons (oTv (eOp2 addD (oTv (eOp2 addD (oTv (eSl (oSl 5) iNo (iSome (eVar 6)))) (oTv (eLst (osCons (oTv (eOp2 ixD (oSl 5) (oSl 6))) osNil))))) (oTv (eSl (oSl 5) (iSome (eVar 6)) iNo)))) osNil)))
    sNil)
    sNil)
    (sSeq (sRet (eMt mjoinD (oTv (eC (.str " "))) (osCons (oTv (eOp2 addD (oTv (eOp2 addD (oTv (eSl (oSl 5) iNo (iSome (eVar 6)))) (oTv (eLst (osCons (oTv (eCall F_l_one (aSl 0 (aTv (eVar 7) aNil)))) osNil))))) (oTv (eSl (oSl 5) (iSome (eOp2 addD (oSl 6) (oTv (eC (.int 1))))) iNo)))) osNil)))
    sNil)))))))))))))
def F_l_bent_text : FnS := ⟨[true, false], runF 8 [true, false] b_l_bent_text⟩
theorem c_l_bent_text : cSs (fb (cS ["pool", "text_there", "at", "way", "sign", "words", "spot", "some"] (co T6 ["pool", "text_there", "at", "way", "sign", "words", "spot", "some"] 16) [0] (defScope s_l_bent_text) 1000000 16)) (defBody s_l_bent_text) = some b_l_bent_text := by kernel_rfl
@[simp] theorem m_l_bent_text : F_l_bent_text.mask = [true, false] := rfl
theorem u_l_bent_text : F_l_bent_text.run = runF 8 [true, false] b_l_bent_text := rfl
def T7 : Tab := T6.add "_law_bent_text" F_l_bent_text kw_l_bent_text
theorem sc_l_same : FnScope ["told", "due", "x", "y"] ["told", "due"] (defScope s_l_same) := ⟨rfl, rfl, rfl, by decide +kernel, rfl, by decide +kernel, by decide +kernel⟩
def kw_l_same : Nat → List Str → Option (List Nat) := noKw
def q_l_same_1 (me : FnS) : ME :=
    (eCall me (aTv (eVar 2) (aTv (eVar 3) aNil)))
def b_l_same (me : FnS) : SS :=
    (sSeq (sIf (bOp2 isD (oSl 1) (oTv (eC .none)))
    (sSeq (sRet (eOp2 isD (oSl 0) (oTv (eC .none))))
    sNil)
    sNil)
    (sSeq (sIf (bTru (oTv (eIsi ["bool"] (oSl 1))))
    (sSeq (sRet (eAnd (eIsi ["bool"] (oSl 0)) (eOp2 eqD (oSl 0) (oSl 1))))
    sNil)
    sNil)
    (sSeq (sIf (bTru (oTv (eIsi ["int"] (oSl 1))))
    (sSeq (sRet (eAnd (eIsi ["int"] (oSl 0)) (eAnd (eNot (eIsi ["bool"] (oSl 0))) (eOp2 eqD (oSl 0) (oSl 1)))))
    sNil)
    sNil)
    (sSeq (sIf (bTru (oTv (eIsi ["str"] (oSl 1))))
    (sSeq (sRet (eAnd (eIsi ["str"] (oSl 0)) (eOp2 eqD (oSl 0) (oSl 1))))
    sNil)
    sNil)
    (sSeq (sIf (bOr (bNot (bTru (oTv (eIsi ["tuple"] (oSl 0))))) (bOp2 neD (oTv (eB lenD (osCons (oSl 0) osNil))) (oTv (eB lenD (osCons (oSl 1) osNil)))))
    (sSeq (sRet (eC (.bool false)))
    sNil)
    sNil)
    (sSeq (sRet (eB allD (osCons (oTv (eLc [2, 3] (iFn zpD (osCons (oTv (eVar 0)) (osCons (oTv (eVar 1)) osNil))) (gTn 2 (gCons (gN [] 2) (gCons (gN [] 3) gNil))) bYes (q_l_same_1 me))) osNil)))
    sNil))))))
def R_l_same : Nat → List D → Option (RV × List D)
  | 0 => fun _ => none
  | d + 1 => runF 4 [false, false] (b_l_same ⟨[false, false], R_l_same d⟩)
def F_l_same : FnS := ⟨[false, false], R_l_same 5⟩
theorem c_l_same (r : List D → Option (RV × List D)) : cSs (cS ["told", "due", "x", "y"] (co (T7.add "_law_same" ⟨[false, false], r⟩ kw_l_same) ["told", "due", "x", "y"] 16) [] (defScope s_l_same) 1000000 16) (defBody s_l_same) = some (b_l_same ⟨[false, false], r⟩) := by kernel_rfl
@[simp] theorem m_l_same : F_l_same.mask = [false, false] := rfl
theorem u_l_same : F_l_same.run = R_l_same 5 := rfl
def T8 : Tab := T7.add "_law_same" F_l_same kw_l_same
theorem sc_begins_some : FnScope ["word", "words", "each"] ["word", "words"] (defScope s_begins_some) := ⟨rfl, rfl, rfl, by decide +kernel, rfl, by decide +kernel, by decide +kernel⟩
def kw_begins_some : Nat → List Str → Option (List Nat) := noKw
def q_begins_some_1 : ME :=
    (eMt startD (oSl 2) (osCons (oSl 0) osNil))
def b_begins_some : SS :=
    (sSeq (sRet (eB anyD (osCons (oTv (eLc [2] (iSeq (eVar 1)) (gN [] 2) bYes q_begins_some_1)) osNil)))
    sNil)
def F_begins_some : FnS := ⟨[false, false], runF 3 [false, false] b_begins_some⟩
theorem c_begins_some : cSs (fb (cS ["word", "words", "each"] (co T8 ["word", "words", "each"] 16) [] (defScope s_begins_some) 1000000 16)) (defBody s_begins_some) = some b_begins_some := by kernel_rfl
@[simp] theorem m_begins_some : F_begins_some.mask = [false, false] := rfl
theorem u_begins_some : F_begins_some.run = runF 3 [false, false] b_begins_some := rfl
def T9 : Tab := T8.add "begins_some" F_begins_some kw_begins_some
theorem sc_words_of : FnScope ["text", "follow", "found", "here", "at", "sign", "may_follow"] ["text", "follow"] (defScope s_words_of) := ⟨rfl, rfl, rfl, by decide +kernel, rfl, by decide +kernel, by decide +kernel⟩
def kw_words_of : Nat → List Str → Option (List Nat) := noKw
def q_words_of_1 : SS :=
    (sSeq (sSet [] 6 (eCallV T9.fn 1 (osCons (oTv (eVar 2)) osNil)))
    (sSeq (sIf (bAnd (bOp2 eqD (oSl 5) (oTv (eC (.str " ")))) (bAnd (bOp2 inD (oSl 3) (oSl 6)) (bOp2 neD (oTv (eCallV T9.fn 1 (osCons (oTv (eOp2 addD (oSl 2) (oTv (eLst (osCons (oTv (eVar 3)) osNil))))) osNil))) (oTv (eLst osNil)))))
    (sSeq (sPar [] [2, 3] (aRv (eOp2 addD (oSl 2) (oTv (eLst (osCons (oTv (eVar 3)) osNil)))) (aRv (eC (.str "")) aNil)))
    sNil)
    (sSeq (sIf (bAnd (bOp2 neD (oSl 5) (oTv (eC (.str " ")))) (bTru (oTv (eCall F_begins_some (aTv (eOp2 addD (oSl 3) (oSl 5)) (aTv (eVar 6) aNil))))))
    (sSeq (sSet [] 3 (eOp2 addD (oSl 3) (oSl 5)))
    sNil)
    (sSeq (sRet (eTup (osCons (oTv (eLst osNil)) (osCons (oTv (eVar 4)) osNil))))
    sNil))
    sNil))
    sNil))
def b_words_of : SS :=
    (sSeq (sPar [] [2, 3] (aRv (eLst osNil) (aRv (eC (.str "")) aNil)))
    (sSeq (sFor (iFn enuD (osCons (oTv (eVar 0)) osNil)) (gTn 2 (gCons (gN [] 4) (gCons (gN [] 5) gNil))) q_words_of_1)
    (sSeq (sIf (bAnd (bOp2 inD (oSl 3) (oTv (eCallV T9.fn 1 (osCons (oTv (eVar 2)) osNil)))) (bOp2 eqD (oTv (eCallV T9.fn 1 (osCons (oTv (eOp2 addD (oSl 2) (oTv (eLst (osCons (oTv (eVar 3)) osNil))))) osNil))) (oTv (eLst osNil))))
    (sSeq (sRet (eTup (osCons (oTv (eOp2 addD (oSl 2) (oTv (eLst (osCons (oTv (eVar 3)) osNil))))) (osCons (oTv (eOp1 negD (oTv (eC (.int 1))))) osNil))))
    sNil)
    sNil)
    (sSeq (sRet (eTup (osCons (oTv (eLst osNil)) (osCons (oTv (eB lenD (osCons (oSl 0) osNil))) osNil))))
    sNil))))
def F_words_of : FnS := ⟨[false, false], runF 7 [false, false] b_words_of⟩
theorem c_words_of : cSs (fb (cS ["text", "follow", "found", "here", "at", "sign", "may_follow"] (co T9 ["text", "follow", "found", "here", "at", "sign", "may_follow"] 16) [] (defScope s_words_of) 1000000 16)) (defBody s_words_of) = some b_words_of := by kernel_rfl
@[simp] theorem m_words_of : F_words_of.mask = [false, false] := rfl
theorem u_words_of : F_words_of.run = runF 7 [false, false] b_words_of := rfl
def T10 : Tab := T9.add "words_of" F_words_of kw_words_of
theorem sc_rules_by : FnScope ["words", "each"] ["words"] (defScope s_rules_by) := ⟨rfl, rfl, rfl, by decide +kernel, rfl, by decide +kernel, by decide +kernel⟩
def kw_rules_by : Nat → List Str → Option (List Nat) := noKw
def q_rules_by_1 : ME :=
    (eB intD (osCons (oSl 1) osNil))
def b_rules_by : SS :=
    (sSeq (sRet (eB tupleD (osCons (oTv (eOp2 addD (oTv (eLc [1] (iSeq (eSl (oSl 0) iNo (iSome (eC (.int 7))))) (gN [] 1) bYes q_rules_by_1)) (oTv (eLst (osCons (oTv (eOp2 eqD (oTv (eOp2 ixD (oSl 0) (oTv (eC (.int 7))))) (oTv (eC (.str "yes"))))) osNil))))) osNil)))
    sNil)
def F_rules_by : FnS := ⟨[false], runF 2 [false] b_rules_by⟩
theorem c_rules_by : cSs (fb (cS ["words", "each"] (co T10 ["words", "each"] 16) [] (defScope s_rules_by) 1000000 16)) (defBody s_rules_by) = some b_rules_by := by kernel_rfl
@[simp] theorem m_rules_by : F_rules_by.mask = [false] := rfl
theorem u_rules_by : F_rules_by.run = runF 2 [false] b_rules_by := rfl
def T11 : Tab := T10.add "rules_by" F_rules_by kw_rules_by
theorem sc_check_text : FnScope ["value"] ["value"] (defScope s_check_text) := ⟨rfl, rfl, rfl, by decide +kernel, rfl, by decide +kernel, by decide +kernel⟩
def kw_check_text : Nat → List Str → Option (List Nat) := noKw
def F_check_text : FnS := ⟨[false], fun _ => none⟩
@[simp] theorem m_check_text : F_check_text.mask = [false] := rfl
def T12 : Tab := T11.add "check_text" F_check_text kw_check_text
theorem sc_read_rules : FnScope ["text", "words", "wrong"] ["text"] (defScope s_read_rules) := ⟨rfl, rfl, rfl, by decide +kernel, rfl, by decide +kernel, by decide +kernel⟩
def kw_read_rules : Nat → List Str → Option (List Nat) := (fun n ks => if n = 0 ∧ ks = (["text"] : List Str) then some [0] else none)
def F_read_rules : FnS := ⟨[false], fun _ => none⟩
@[simp] theorem m_read_rules : F_read_rules.mask = [false] := rfl
def T13 : Tab := T12.add "read_rules" F_read_rules kw_read_rules
theorem sc_letter_by : FnScope ["row", "words"] ["row"] (defScope s_letter_by) := ⟨rfl, rfl, rfl, by decide +kernel, rfl, by decide +kernel, by decide +kernel⟩
def kw_letter_by : Nat → List Str → Option (List Nat) := noKw
def b_letter_by : SS :=
    (sSeq (sSet [] 1 (eMt splitD (oSl 0) (osCons (oTv (eC (.str " "))) osNil)))
    (sSeq (sIf (bOr (bOp2 neD (oTv (eB lenD (osCons (oSl 1) osNil))) (oTv (eC (.int 2)))) (bOr (bOp2 notInD (oTv (eOp2 ixD (oSl 1) (oTv (eC (.int 0))))) (oTv (eCall F_figures (aTv (eC (.int 0)) (aTv (eC (.int 3)) aNil))))) (bOp2 notInD (oTv (eOp2 ixD (oSl 1) (oTv (eC (.int 1))))) (oTv (eC C_DEEDS)))))
    (sSeq (sRet (eLst osNil))
    sNil)
    sNil)
    (sSeq (sRet (eLst (osCons (oTv (eTup (osCons (oTv (eB intD (osCons (oTv (eOp2 ixD (oSl 1) (oTv (eC (.int 0))))) osNil))) (osCons (oTv (eOp2 ixD (oSl 1) (oTv (eC (.int 1))))) osNil)))) osNil)))
    sNil)))
def F_letter_by : FnS := ⟨[false], runF 2 [false] b_letter_by⟩
theorem c_letter_by : cSs (fb (cS ["row", "words"] (co T13 ["row", "words"] 16) [] (defScope s_letter_by) 1000000 16)) (defBody s_letter_by) = some b_letter_by := by kernel_rfl
@[simp] theorem m_letter_by : F_letter_by.mask = [false] := rfl
theorem u_letter_by : F_letter_by.run = runF 2 [false] b_letter_by := rfl
def T14 : Tab := T13.add "letter_by" F_letter_by kw_letter_by
theorem sc_letters_by : FnScope ["text", "rows", "found", "index", "row", "letter"] ["text"] (defScope s_letters_by) := ⟨rfl, rfl, rfl, by decide +kernel, rfl, by decide +kernel, by decide +kernel⟩
def kw_letters_by : Nat → List Str → Option (List Nat) := noKw
def q_letters_by_1 : SS :=
    (sSeq (sSet [] 5 (eCall F_letter_by (aTv (eVar 4) aNil)))
    (sSeq (sIf (bOr (bOp2 eqD (oSl 5) (oTv (eLst osNil))) (bOp2 eqD (oSl 3) (oTv (eC (.int 6)))))
    (sSeq (sRet (eTup (osCons (oTv (eTup osNil)) (osCons (oTv (eVar 3)) osNil))))
    sNil)
    sNil)
    (sSeq (sSet [] 2 (eOp2 addD (oSl 2) (oTv (eTup (osCons (oTv (eOp2 ixD (oSl 5) (oTv (eC (.int 0))))) osNil)))))
    sNil)))
def b_letters_by : SS :=
    (sSeq (sPar [] [1, 2] (aRv (eMt splitD (oSl 0) (osCons (oTv (eC (.str "\n"))) osNil)) (aRv (eTup osNil) aNil)))
    (sSeq (sFor (iFn enuD (osCons (oTv (eSl (oSl 1) iNo (iSome (eOp1 negD (oTv (eC (.int 1))))))) osNil)) (gTn 2 (gCons (gN [] 3) (gCons (gN [] 4) gNil))) q_letters_by_1)
    (sSeq (sRet (eIf (bOp2 eqD (oTv (eOp2 ixD (oSl 1) (oTv (eOp1 negD (oTv (eC (.int 1))))))) (oTv (eC (.str "")))) (eTup (osCons (oTv (eVar 2)) (osCons (oTv (eOp1 negD (oTv (eC (.int 1))))) osNil))) (eTup (osCons (oTv (eTup osNil)) (osCons (oTv (eOp2 subD (oTv (eB lenD (osCons (oSl 1) osNil))) (oTv (eC (.int 1))))) osNil)))))
    sNil)))
def F_letters_by : FnS := ⟨[false], runF 6 [false] b_letters_by⟩
theorem c_letters_by : cSs (fb (cS ["text", "rows", "found", "index", "row", "letter"] (co T14 ["text", "rows", "found", "index", "row", "letter"] 16) [] (defScope s_letters_by) 1000000 16)) (defBody s_letters_by) = some b_letters_by := by kernel_rfl
@[simp] theorem m_letters_by : F_letters_by.mask = [false] := rfl
theorem u_letters_by : F_letters_by.run = runF 6 [false] b_letters_by := rfl
def T15 : Tab := T14.add "letters_by" F_letters_by kw_letters_by
theorem sc_read_letters : FnScope ["text", "letters", "wrong"] ["text"] (defScope s_read_letters) := ⟨rfl, rfl, rfl, by decide +kernel, rfl, by decide +kernel, by decide +kernel⟩
def kw_read_letters : Nat → List Str → Option (List Nat) := (fun n ks => if n = 0 ∧ ks = (["text"] : List Str) then some [0] else none)
def F_read_letters : FnS := ⟨[false], fun _ => none⟩
@[simp] theorem m_read_letters : F_read_letters.mask = [false] := rfl
def T16 : Tab := T15.add "read_letters" F_read_letters kw_read_letters
theorem sc_l_rules_due : FnScope ["thing", "bounds_there", "at", "sign", "rest"] ["thing"] (defScope s_l_rules_due) := ⟨rfl, rfl, rfl, by decide +kernel, rfl, by decide +kernel, by decide +kernel⟩
def kw_l_rules_due : Nat → List Str → Option (List Nat) := noKw
def q_l_rules_due_1 : SS :=
    (sSeq (sIf (bOp2 notInD (oTv (eSl (oSl 4) iNo (iSome (eOp2 addD (oSl 2) (oTv (eC (.int 1))))))) (oTv (eTup (osCons (oTv (eC (.str "y"))) (osCons (oTv (eC (.str "ye"))) (osCons (oTv (eC (.str "yes"))) (osCons (oTv (eC (.str "n"))) (osCons (oTv (eC (.str "no"))) osNil))))))))
    (sSeq (sRet (eTup (osCons (oTv (eC (.int 1))) (osCons (oTv (eOp2 addD (oTv (eC (.int 14))) (oSl 2))) osNil))))
    sNil)
    sNil)
    sNil)
def q_l_rules_due_2 : ME :=
    (eB intD (osCons (oTv (eOp2 ixD (oSl 0) (oTv (eOp2 mulD (oTv (eC (.int 2))) (oSl 2))))) osNil))
def q_l_rules_due_3 : SS :=
    (sSeq (sIf (bAnd (bOp2 ltD (oSl 2) (oTv (eC (.int 14)))) (bIf (bOp2 eqD (oTv (eOp2 modD (oTv (eB intD (osCons (oSl 2) osNil))) (oTv (eC (.int 2))))) (oTv (eC (.int 0)))) (bOp2 notInD (oSl 3) (oTv (eOp2 ixD (oSl 1) (oTv (eOp2 fdivD (oSl 2) (oTv (eC (.int 2)))))))) (bOp2 neD (oSl 3) (oTv (eC (.str " "))))))
    (sSeq (sRet (eTup (osCons (oTv (eC (.int 1))) (osCons (oTv (eVar 2)) osNil))))
    sNil)
    sNil)
    sNil)
def b_l_rules_due : SS :=
    (sSeq (sSet [] 1 (eTup (osCons (oTv (eC (.str "123456789"))) (osCons (oTv (eC (.str "01234"))) (osCons (oTv (eC (.str "01234"))) (osCons (oTv (eC (.str "01234"))) (osCons (oTv (eC (.str "01234"))) (osCons (oTv (eC (.str "01234"))) (osCons (oTv (eC (.str "1234"))) osNil)))))))))
    (sSeq (sFor (iFn enuD (osCons (oTv (eVar 0)) osNil)) (gTn 2 (gCons (gN [] 2) (gCons (gN [] 3) gNil))) q_l_rules_due_3)
    (sSeq (sSet [] 4 (eSl (oSl 0) (iSome (eC (.int 14))) iNo))
    (sSeq (sIf (bAnd (bOp2 gtD (oTv (eB lenD (osCons (oSl 0) osNil))) (oTv (eC (.int 14)))) (bOp2 inD (oSl 4) (oTv (eTup (osCons (oTv (eC (.str "yes"))) (osCons (oTv (eC (.str "no"))) osNil))))))
    (sSeq (sRet (eTup (osCons (oTv (eC (.int 0))) (osCons (oTv (eOp2 addD (oTv (eB tupleD (osCons (oTv (eLc [2] (iFn rng1 (osCons (oTv (eC (.int 7))) osNil)) (gN [] 2) bYes q_l_rules_due_2)) osNil))) (oTv (eTup (osCons (oTv (eOp2 eqD (oSl 4) (oTv (eC (.str "yes"))))) osNil))))) osNil))))
    sNil)
    sNil)
    (sSeq (sFor (iFn rng1 (osCons (oTv (eB lenD (osCons (oSl 4) osNil))) osNil)) (gN [] 2) q_l_rules_due_1)
    (sSeq (sRet (eTup (osCons (oTv (eC (.int 1))) (osCons (oTv (eB lenD (osCons (oSl 0) osNil))) osNil))))
    sNil))))))
def F_l_rules_due : FnS := ⟨[false], runF 5 [false] b_l_rules_due⟩
theorem c_l_rules_due : cSs (fb (cS ["thing", "bounds_there", "at", "sign", "rest"] (co T16 ["thing", "bounds_there", "at", "sign", "rest"] 16) [] (defScope s_l_rules_due) 1000000 16)) (defBody s_l_rules_due) = some b_l_rules_due := by kernel_rfl
@[simp] theorem m_l_rules_due : F_l_rules_due.mask = [false] := rfl
theorem u_l_rules_due : F_l_rules_due.run = runF 5 [false] b_l_rules_due := rfl
def T17 : Tab := T16.add "_law_rules_due" F_l_rules_due kw_l_rules_due
theorem sc_l_deeds : FnScope [] [] (defScope s_l_deeds) := ⟨rfl, rfl, rfl, by decide +kernel, rfl, by decide +kernel, by decide +kernel⟩
def kw_l_deeds : Nat → List Str → Option (List Nat) := noKw
def b_l_deeds : SS :=
    (sSeq (sRet (eTup (osCons (oTv (eC (.str "create"))) (osCons (oTv (eC (.str "renew"))) (osCons (oTv (eC (.str "redeem"))) (osCons (oTv (eC (.str "delete"))) (osCons (oTv (eC (.str "lock"))) (osCons (oTv (eC (.str "unlock"))) (osCons (oTv (eC (.str "code"))) (osCons (oTv (eC (.str "take"))) (osCons (oTv (eC (.str "guess"))) (osCons (oTv (eC (.str "agree"))) (osCons (oTv (eC (.str "refuse"))) osNil)))))))))))))
    sNil)
def F_l_deeds : FnS := ⟨[], runF 0 [] b_l_deeds⟩
theorem c_l_deeds : cSs (fb (cS [] (co T17 [] 16) [] (defScope s_l_deeds) 1000000 16)) (defBody s_l_deeds) = some b_l_deeds := by kernel_rfl
@[simp] theorem m_l_deeds : F_l_deeds.mask = [] := rfl
theorem u_l_deeds : F_l_deeds.run = runF 0 [] b_l_deeds := rfl
def T18 : Tab := T17.add "_law_deeds" F_l_deeds kw_l_deeds
theorem sc_l_letters_due : FnScope ["thing", "rows", "found", "at", "row", "words"] ["thing"] (defScope s_l_letters_due) := ⟨rfl, rfl, rfl, by decide +kernel, rfl, by decide +kernel, by decide +kernel⟩
def kw_l_letters_due : Nat → List Str → Option (List Nat) := noKw
def q_l_letters_due_1 : SS :=
    (sSeq (sSet [] 5 (eMt splitD (oSl 4) (osCons (oTv (eC (.str " "))) osNil)))
    (sSeq (sIf (bOr (bOp2 gtD (oSl 3) (oTv (eC (.int 5)))) (bOr (bOp2 neD (oTv (eB lenD (osCons (oSl 5) osNil))) (oTv (eC (.int 2)))) (bOr (bOp2 notInD (oTv (eOp2 ixD (oSl 5) (oTv (eC (.int 0))))) (oTv (eTup (osCons (oTv (eC (.str "0"))) (osCons (oTv (eC (.str "1"))) (osCons (oTv (eC (.str "2"))) (osCons (oTv (eC (.str "3"))) osNil))))))) (bOp2 notInD (oTv (eOp2 ixD (oSl 5) (oTv (eC (.int 1))))) (oTv (eCall F_l_deeds aNil))))))
    (sSeq (sRet (eTup (osCons (oTv (eC (.int 1))) (osCons (oTv (eVar 3)) osNil))))
    sNil)
    sNil)
    (sSeq (sDrop (eApp 2 (eTup (osCons (oTv (eB intD (osCons (oTv (eOp2 ixD (oSl 5) (oTv (eC (.int 0))))) osNil))) (osCons (oTv (eOp2 ixD (oSl 5) (oTv (eC (.int 1))))) osNil)))))
    sNil)))
def b_l_letters_due : SS :=
    (sSeq (sPar [] [1, 2] (aRv (eMt splitD (oSl 0) (osCons (oTv (eC (.str "\n"))) osNil)) (aRv (eLst osNil) aNil)))
    (sSeq (sFor (iFn enuD (osCons (oTv (eSl (oSl 1) iNo (iSome (eOp1 negD (oTv (eC (.int 1))))))) osNil)) (gTn 2 (gCons (gN [] 3) (gCons (gN [] 4) gNil))) q_l_letters_due_1)
    (sSeq (sRet (eIf (bOp2 eqD (oTv (eOp2 ixD (oSl 1) (oTv (eOp1 negD (oTv (eC (.int 1))))))) (oTv (eC (.str "")))) (eTup (osCons (oTv (eC (.int 0))) (osCons (oTv (eB tupleD (osCons (oSl 2) osNil))) osNil))) (eTup (osCons (oTv (eC (.int 1))) (osCons (oTv (eOp2 subD (oTv (eB lenD (osCons (oSl 1) osNil))) (oTv (eC (.int 1))))) osNil)))))
    sNil)))
def F_l_letters_due : FnS := ⟨[false], runF 6 [false] b_l_letters_due⟩
theorem c_l_letters_due : cSs (fb (cS ["thing", "rows", "found", "at", "row", "words"] (co T18 ["thing", "rows", "found", "at", "row", "words"] 16) [] (defScope s_l_letters_due) 1000000 16)) (defBody s_l_letters_due) = some b_l_letters_due := by kernel_rfl
@[simp] theorem m_l_letters_due : F_l_letters_due.mask = [false] := rfl
theorem u_l_letters_due : F_l_letters_due.run = runF 6 [false] b_l_letters_due := rfl
def T19 : Tab := T18.add "_law_letters_due" F_l_letters_due kw_l_letters_due
theorem sc_l_letters : FnScope ["pool", "most", "house_there", "found", "lap", "who", "other"] ["pool", "most"] (defScope s_l_letters) := ⟨rfl, rfl, rfl, by decide +kernel, rfl, by decide +kernel, by decide +kernel⟩
def kw_l_letters : Nat → List Str → Option (List Nat) := noKw
def q_l_letters_1 : SS :=
    (sSeq (sSet [0] 5 (eCall F_l_one (aSl 0 (aTv (eTup (osCons (oTv (eVar 2)) (osCons (oTv (eVar 2)) (osCons (oTv (eCall F_l_below (aSl 0 (aTv (eC (.int 4)) aNil)))) osNil)))) aNil))))
    (sSeq (sDrop (eApp 3 (eTup (osCons (oTv (eVar 5)) (osCons (oTv (eCall F_l_one (aSl 0 (aTv (eCall F_l_deeds aNil) aNil)))) osNil)))))
    sNil))
def b_l_letters : SS :=
    (sSeq (sPar [0] [2, 3] (aRv (eCall F_l_below (aSl 0 (aTv (eC (.int 4)) aNil))) (aRv (eLst osNil) aNil)))
    (sSeq (sFor (iFn rng1 (osCons (oTv (eCall F_l_below (aSl 0 (aTv (eOp2 addD (oSl 1) (oTv (eC (.int 1)))) aNil)))) osNil)) (gN [0] 4) q_l_letters_1)
    (sSeq (sIf (bAnd (bOp2 eqD (oTv (eCall F_l_below (aSl 0 (aTv (eC (.int 4)) aNil)))) (oTv (eC (.int 0)))) (bOp2 gtD (oSl 1) (oTv (eC (.int 2)))))
    (sSeq (sSet [0] 6 (eOp2 modD (oTv (eB intD (osCons (oTv (eOp2 addD (oTv (eOp2 addD (oSl 2) (oTv (eC (.int 1))))) (oTv (eCall F_l_below (aSl 0 (aTv (eC (.int 3)) aNil)))))) osNil))) (oTv (eC (.int 4)))))
    (sSeq (sSet [0] 3 (eSl (oTv (eLst (osCons (oTv (eTup (osCons (oTv (eVar 2)) (osCons (oTv (eC (.str "unlock"))) osNil)))) (osCons (oTv (eTup (osCons (oTv (eVar 2)) (osCons (oTv (eC (.str "code"))) osNil)))) (osCons (oTv (eTup (osCons (oTv (eVar 6)) (osCons (oTv (eC (.str "take"))) osNil)))) (osCons (oTv (eTup (osCons (oTv (eVar 2)) (osCons (oTv (eCall F_l_one (aSl 0 (aTv (eTup (osCons (oTv (eC (.str "agree"))) (osCons (oTv (eC (.str "refuse"))) osNil))) aNil)))) osNil)))) osNil)))))) iNo (iSome (eVar 1))))
    (sSeq (sSet [0] 3 (eOp2 addD (oSl 3) (oTv (eSl (oTv (eLst (osCons (oTv (eTup (osCons (oTv (eVar 6)) (osCons (oTv (eCall F_l_one (aSl 0 (aTv (eTup (osCons (oTv (eC (.str "renew"))) (osCons (oTv (eC (.str "delete"))) (osCons (oTv (eC (.str "lock"))) (osCons (oTv (eC (.str "code"))) osNil))))) aNil)))) osNil)))) osNil))) iNo (iSome (eB maxD (osCons (oTv (eC (.int 0))) (osCons (oTv (eOp2 subD (oSl 1) (oTv (eC (.int 4))))) osNil))))))))
    sNil)))
    sNil)
    (sSeq (sRet (eB tupleD (osCons (oTv (eSl (oSl 3) iNo (iSome (eVar 1)))) osNil)))
    sNil))))
def F_l_letters : FnS := ⟨[true, false], runF 7 [true, false] b_l_letters⟩
theorem c_l_letters : cSs (fb (cS ["pool", "most", "house_there", "found", "lap", "who", "other"] (co T19 ["pool", "most", "house_there", "found", "lap", "who", "other"] 16) [0] (defScope s_l_letters) 1000000 16)) (defBody s_l_letters) = some b_l_letters := by kernel_rfl
@[simp] theorem m_l_letters : F_l_letters.mask = [true, false] := rfl
theorem u_l_letters : F_l_letters.run = runF 7 [true, false] b_l_letters := rfl
def T20 : Tab := T19.add "_law_letters" F_l_letters kw_l_letters
theorem sc_l_rows_text : FnScope ["pool", "row", "text_there", "way", "rows", "at", "odd_one", "house_there", "deed_there"] ["pool"] (defScope s_l_rows_text) := ⟨rfl, rfl, rfl, by decide +kernel, rfl, by decide +kernel, by decide +kernel⟩
def kw_l_rows_text : Nat → List Str → Option (List Nat) := noKw
def q_l_rows_text_1 : ME :=
    (eOp2 addD (oTv (eOp2 addD (oTv (eOp2 addD (oTv (eB strD (osCons (oSl 7) osNil))) (oTv (eC (.str " "))))) (oSl 8))) (oTv (eC (.str "\n"))))
def b_l_rows_text : SS :=
    (sSeq (sSet [0] 1 (eOp2 addD (oTv (eCall F_l_letters (aSl 0 (aTv (eC (.int 6)) aNil)))) (oTv (eCall F_l_one (aSl 0 (aTv (eTup (osCons (oTv (eTup osNil)) (osCons (oTv (eTup osNil)) (osCons (oTv (eCall F_l_letters (aSl 0 (aTv (eC (.int 4)) aNil)))) osNil)))) aNil))))))
    (sSeq (sSet [0] 2 (eMt mjoinD (oTv (eC (.str ""))) (osCons (oTv (eLc [7, 8] (iSeq (eVar 1)) (gTn 2 (gCons (gN [] 7) (gCons (gN [] 8) gNil))) bYes q_l_rows_text_1)) osNil)))
    (sSeq (sSet [0] 3 (eCall F_l_below (aSl 0 (aTv (eC (.int 6)) aNil))))
    (sSeq (sSet [0] 4 (eMt splitD (oSl 2) (osCons (oTv (eC (.str "\n"))) osNil)))
    (sSeq (sSet [0] 5 (eCall F_l_below (aSl 0 (aTv (eB lenD (osCons (oSl 4) osNil)) aNil))))
    (sSeq (sIf (bOp2 eqD (oSl 3) (oTv (eC (.int 0))))
    (sSeq (sRet (eSl (oSl 2) iNo (iSome (eB maxD (osCons (oTv (eC (.int 0))) (osCons (oTv (eOp2 subD (oTv (eOp2 subD (oTv (eB lenD (osCons (oSl 2) osNil))) (oTv (eC (.int 1))))) (oTv (eCall F_l_below (aSl 0 (aTv (eC (.int 3)) aNil)))))) osNil))))))
    sNil)
    sNil)
    (sSeq (sIf (bOp2 eqD (oSl 3) (oTv (eC (.int 1))))
    (sSeq (sRet (eMt mjoinD (oTv (eC (.str "\n"))) (osCons (oTv (eOp2 addD (oTv (eOp2 addD (oTv (eSl (oSl 4) iNo (iSome (eVar 5)))) (oTv (eLst (osCons (oTv (eCall F_l_bent_text (aSl 0 (aTv (eOp2 ixD (oSl 4) (oSl 5)) aNil)))) osNil))))) (oTv (eSl (oSl 4) (iSome (eOp2 addD (oSl 5) (oTv (eC (.int 1))))) iNo)))) osNil)))
    sNil)
    sNil)
    (sSeq (sIf (bOp2 eqD (oSl 3) (oTv (eC (.int 2))))
    (sSeq (sSet [0] 6 (eCall F_l_one (aSl 0 (aTv (eTup (osCons (oTv (eC (.str ""))) (osCons (oTv (eC (.str "4 lock"))) (osCons (oTv (eC (.str "0 lock "))) (osCons (oTv (eC (.str " 0 lock"))) (osCons (oTv (eC (.str "00 lock"))) (osCons (oTv (eC (.str "0 Lock"))) (osCons (oTv (eC (.str "0  lock"))) (osCons (oTv (eC (.str "lock 0"))) (osCons (oTv (eC (.str "0 lock 1"))) (osCons (oTv (eC (.str "0 lost"))) (osCons (oTv (eC (.str "0"))) (osCons (oTv (eC (.str "-1 lock"))) osNil))))))))))))) aNil))))
    (sSeq (sRet (eMt mjoinD (oTv (eC (.str "\n"))) (osCons (oTv (eOp2 addD (oTv (eOp2 addD (oTv (eSl (oSl 4) iNo (iSome (eVar 5)))) (oTv (eLst (osCons (oTv (eVar 6)) osNil))))) (oTv (eSl (oSl 4) (iSome (eVar 5)) iNo)))) osNil)))
    sNil))
    sNil)
    (sSeq (sRet (eOp2 addD (oSl 2) (oTv (eCall F_l_one (aSl 0 (aTv (eTup (osCons (oTv (eC (.str ""))) (osCons (oTv (eC (.str ""))) (osCons (oTv (eC (.str "0 guess\n"))) (osCons (oTv (eC (.str "\n"))) (osCons (oTv (eC (.str "0 guess"))) (osCons (oTv (eC (.str " "))) osNil))))))) aNil))))))
    sNil)))))))))
def F_l_rows_text : FnS := ⟨[true], runF 9 [true] b_l_rows_text⟩
theorem c_l_rows_text : cSs (fb (cS ["pool", "row", "text_there", "way", "rows", "at", "odd_one", "house_there", "deed_there"] (co T20 ["pool", "row", "text_there", "way", "rows", "at", "odd_one", "house_there", "deed_there"] 16) [0] (defScope s_l_rows_text) 1000000 16)) (defBody s_l_rows_text) = some b_l_rows_text := by kernel_rfl
@[simp] theorem m_l_rows_text : F_l_rows_text.mask = [true] := rfl
theorem u_l_rows_text : F_l_rows_text.run = runF 9 [true] b_l_rows_text := rfl
def T21 : Tab := T20.add "_law_rows_text" F_l_rows_text kw_l_rows_text
def TX0 : TabX := (TabX.nil.addC "InvalidText" "index")
theorem tx0_e : TX0 = TabX.ofE els := by kernel_rfl
def bx_check_text : SX :=
    (sxSeq (sxIf (bNot (bTru (oTv (eIsi ["str"] (oSl 0)))))
    (sxSeq (sxRaise "InvalidText" "index" (eC .none))
    (sxN sNil))
    (sxN sNil))
    (sxN sNil))
def FX_check_text : FnX := ⟨1, runX 1 1 bx_check_text⟩
theorem cx_check_text : cXss (fbX (cXs T21 TX0 ["value"] (co T21 ["value"] 16) [] (defScope s_check_text) 1000000 16)) (defBody s_check_text) = some bx_check_text := by kernel_rfl
theorem ux_check_text : FX_check_text.run = runX 1 1 bx_check_text := rfl
@[simp] theorem nx_check_text : FX_check_text.n = 1 := rfl
def TX1 : TabX := TX0.add "check_text" FX_check_text (kw_check_text 0)
def bx_read_rules : SX :=
    (sxSeq (sxDrop (xCall FX_check_text (osCons (oTv (eVar 0)) osNil)))
    (sxSeq (sxN (sAsg (eCall F_words_of (aTv (eVar 0) (aTv (eC (fnD "rules_follow")) aNil))) (gTn 2 (gCons (gN [] 1) (gCons (gN [] 2) gNil)))))
    (sxSeq (sxIf (bOp2 eqD (oSl 1) (oTv (eLst osNil)))
    (sxSeq (sxRaise "InvalidText" "index" (eVar 2))
    (sxN sNil))
    (sxN sNil))
    (sxSeq (sxN (sRet (eCall F_rules_by (aTv (eVar 1) aNil))))
    (sxN sNil)))))
def FX_read_rules : FnX := ⟨1, runX 3 1 bx_read_rules⟩
theorem cx_read_rules : cXss (fbX (cXs T21 TX1 ["text", "words", "wrong"] (co T21 ["text", "words", "wrong"] 16) [] (defScope s_read_rules) 1000000 16)) (defBody s_read_rules) = some bx_read_rules := by kernel_rfl
theorem ux_read_rules : FX_read_rules.run = runX 3 1 bx_read_rules := rfl
@[simp] theorem nx_read_rules : FX_read_rules.n = 1 := rfl
def TX2 : TabX := TX1.add "read_rules" FX_read_rules (kw_read_rules 0)
def bx_read_letters : SX :=
    (sxSeq (sxDrop (xCall FX_check_text (osCons (oTv (eVar 0)) osNil)))
    (sxSeq (sxN (sAsg (eCall F_letters_by (aTv (eVar 0) aNil)) (gTn 2 (gCons (gN [] 1) (gCons (gN [] 2) gNil)))))
    (sxSeq (sxIf (bOp2 geD (oSl 2) (oTv (eC (.int 0))))
    (sxSeq (sxRaise "InvalidText" "index" (eVar 2))
    (sxN sNil))
    (sxN sNil))
    (sxSeq (sxN (sRetV [] 1))
    (sxN sNil)))))
def FX_read_letters : FnX := ⟨1, runX 3 1 bx_read_letters⟩
theorem cx_read_letters : cXss (fbX (cXs T21 TX2 ["text", "letters", "wrong"] (co T21 ["text", "letters", "wrong"] 16) [] (defScope s_read_letters) 1000000 16)) (defBody s_read_letters) = some bx_read_letters := by kernel_rfl
theorem ux_read_letters : FX_read_letters.run = runX 3 1 bx_read_letters := rfl
@[simp] theorem nx_read_letters : FX_read_letters.n = 1 := rfl
def TX3 : TabX := TX2.add "read_letters" FX_read_letters (kw_read_letters 0)
theorem sc_l_told : FnScope ["way", "thing", "is_named", "e"] ["way", "thing", "is_named"] (defScope s_l_told) := ⟨rfl, rfl, rfl, by decide +kernel, rfl, by decide +kernel, by decide +kernel⟩
def kw_l_told : Nat → List Str → Option (List Nat) := noKw
def bt0_l_told : SX :=
    (sxSeq (sxIf (bOp2 eqD (oSl 0) (oTv (eC (.int 0))))
    (sxSeq (sxRet (xTup2 (eC (.int 0)) (xIf (bTru (oSl 2)) (xCallK FX_read_rules 1 [0] (osCons (oTv (eVar 1)) osNil)) (xCall FX_read_rules (osCons (oTv (eVar 1)) osNil)))))
    (sxN sNil))
    (sxN sNil))
    (sxSeq (sxRet (xTup2 (eC (.int 0)) (xIf (bTru (oSl 2)) (xCallK FX_read_letters 1 [0] (osCons (oTv (eVar 1)) osNil)) (xCall FX_read_letters (osCons (oTv (eVar 1)) osNil)))))
    (sxN sNil)))
def b_l_told : SS :=
    (sSeq (sTryN TX3.cl bs_ [⟨"InvalidText", some 3, (suT (suC (.int 1)) (suF "index"))⟩, ⟨"LeaseError", none, (suT (suC (.int 2)) (suC .none))⟩] bt0_l_told)
    sNil)
def F_l_told : FnS := ⟨[false, false, false], runF 4 [false, false, false] b_l_told⟩
theorem c_l_told : cSs (cTS T21 TX3 ["way", "thing", "is_named", "e"] (co T21 ["way", "thing", "is_named", "e"] 16) [] (defScope s_l_told) bs_ 1000000 16) (defBody s_l_told) = some b_l_told := by kernel_rfl
@[simp] theorem m_l_told : F_l_told.mask = [false, false, false] := rfl
theorem u_l_told : F_l_told.run = runF 4 [false, false, false] b_l_told := rfl
def T22 : Tab := T21.add "_law_told" F_l_told kw_l_told
theorem sc_l_right : FnScope ["pool", "turn", "plan", "text_there", "lap", "thing", "each"] ["pool"] (defScope s_l_right) := ⟨rfl, rfl, rfl, by decide +kernel, rfl, by decide +kernel, by decide +kernel⟩
def kw_l_right : Nat → List Str → Option (List Nat) := noKw
def q_l_right_1 : SS :=
    (sSeq (sIf (bOr (bNot (bTru (oTv (eCall F_l_same (aTv (eCall F_l_told (aTv (eC (.int 0)) (aTv (eVar 5) (aTv (eC (.bool false)) aNil)))) (aTv (eTup (osCons (oTv (eC (.int 1))) (osCons (oTv (eC .none)) osNil))) aNil)))))) (bNot (bTru (oTv (eCall F_l_same (aTv (eCall F_l_told (aTv (eC (.int 1)) (aTv (eVar 5) (aTv (eC (.bool true)) aNil)))) (aTv (eTup (osCons (oTv (eC (.int 1))) (osCons (oTv (eC .none)) osNil))) aNil)))))))
    (sSeq (sRet (eC (.bool false)))
    sNil)
    sNil)
    sNil)
def q_l_right_2 : SS :=
    (sSeq (sSet [0] 3 (eCall F_l_rows_text (aSl 0 aNil)))
    (sSeq (sIf (bNot (bTru (oTv (eCall F_l_same (aTv (eCall F_l_told (aTv (eC (.int 1)) (aTv (eVar 3) (aTv (eOp2 eqD (oTv (eOp2 modD (oTv (eB intD (osCons (oSl 1) osNil))) (oTv (eC (.int 7))))) (oTv (eC (.int 0)))) aNil)))) (aTv (eCall F_l_letters_due (aTv (eVar 3) aNil)) aNil))))))
    (sSeq (sRet (eC (.bool false)))
    sNil)
    sNil)
    sNil))
def q_l_right_3 : SS :=
    (sSeq (sSet [0] 3 (eCall F_l_bent_text (aSl 0 (aTv (eVar 3) aNil))))
    sNil)
def q_l_right_4 : ME :=
    (eB strD (osCons (oSl 6) osNil))
def q_l_right_5 : SS :=
    (sSeq (sSet [0] 2 (eCall F_l_great_plan (aSl 0 aNil)))
    (sSeq (sSet [0] 3 (eMt mjoinD (oTv (eC (.str " "))) (osCons (oTv (eOp2 addD (oTv (eLc [6] (iSeq (eSl (oSl 2) iNo (iSome (eC (.int 7))))) (gN [] 6) bYes q_l_right_4)) (oTv (eLst (osCons (oTv (eIf (bTru (oTv (eOp2 ixD (oSl 2) (oTv (eC (.int 7)))))) (eC (.str "yes")) (eC (.str "no")))) osNil))))) osNil)))
    (sSeq (sFor (iFn rng1 (osCons (oTv (eCall F_l_one (aSl 0 (aTv (eTup (osCons (oTv (eC (.int 0))) (osCons (oTv (eC (.int 1))) (osCons (oTv (eC (.int 1))) (osCons (oTv (eC (.int 2))) osNil))))) aNil)))) osNil)) (gN [0] 4) q_l_right_3)
    (sSeq (sIf (bNot (bTru (oTv (eCall F_l_same (aTv (eCall F_l_told (aTv (eC (.int 0)) (aTv (eVar 3) (aTv (eOp2 eqD (oTv (eOp2 modD (oTv (eB intD (osCons (oSl 1) osNil))) (oTv (eC (.int 7))))) (oTv (eC (.int 0)))) aNil)))) (aTv (eCall F_l_rules_due (aTv (eVar 3) aNil)) aNil))))))
    (sSeq (sRet (eC (.bool false)))
    sNil)
    sNil)
    sNil))))
def b_l_right : SS :=
    (sSeq (sFor (iFn rng1 (osCons (oTv (eC (.int 60))) osNil)) (gN [0] 1) q_l_right_5)
    (sSeq (sFor (iFn rng1 (osCons (oTv (eC (.int 40))) osNil)) (gN [0] 1) q_l_right_2)
    (sSeq (sFor (iSeq (eTup (osCons (oTv (eC .none)) (osCons (oTv (eC (.int 0))) (osCons (oTv (eC (.bool true))) (osCons (oTv (eTup (osCons (oTv (eC (.str "3"))) osNil))) (osCons (oTv (eLst (osCons (oTv (eC (.str "0 lock"))) osNil))) (osCons (oTv (eDic [])) (osCons (oTv (eTup osNil)) (osCons (oTv (eC (.int 7))) osNil)))))))))) (gN [0] 5) q_l_right_1)
    (sSeq (sRet (eAnd (eCall F_l_same (aTv (eCall F_l_told (aTv (eC (.int 0)) (aTv (eC (.str "")) (aTv (eC (.bool true)) aNil)))) (aTv (eTup (osCons (oTv (eC (.int 1))) (osCons (oTv (eC (.int 0))) osNil))) aNil))) (eCall F_l_same (aTv (eCall F_l_told (aTv (eC (.int 1)) (aTv (eC (.str "\n")) (aTv (eC (.bool true)) aNil)))) (aTv (eTup (osCons (oTv (eC (.int 1))) (osCons (oTv (eC (.int 0))) osNil))) aNil)))))
    sNil))))
def F_l_right : FnS := ⟨[true], runF 7 [true] b_l_right⟩
theorem c_l_right : cSs (fb (cS ["pool", "turn", "plan", "text_there", "lap", "thing", "each"] (co T22 ["pool", "turn", "plan", "text_there", "lap", "thing", "each"] 16) [0] (defScope s_l_right) 1000000 16)) (defBody s_l_right) = some b_l_right := by kernel_rfl
@[simp] theorem m_l_right : F_l_right.mask = [true] := rfl
theorem u_l_right : F_l_right.run = runF 7 [true] b_l_right := rfl
def T23 : Tab := T22.add "_law_right" F_l_right kw_l_right
theorem sc_law : FnScope ["script", "lap"] ["script"] (defScope s_law) := ⟨rfl, rfl, rfl, by decide +kernel, rfl, by decide +kernel, by decide +kernel⟩
def kw_law : Nat → List Str → Option (List Nat) := noKw
def q_law_1 : ME :=
    (eCall F_l_right (aOw (eCall F_l_pool (aTv (eVar 0) (aTv (eVar 1) aNil))) aNil))
def b_law : SS :=
    (sSeq (sRet (eB allD (osCons (oTv (eLc [1] (iFn rng1 (osCons (oTv (eB maxD (osCons (oTv (eC (.int 1))) (osCons (oTv (eB minD (osCons (oTv (eB lenD (osCons (oSl 0) osNil))) (osCons (oTv (eC (.int 2))) osNil)))) osNil)))) osNil)) (gN [] 1) bYes q_law_1)) osNil)))
    sNil)
def F_law : FnS := ⟨[false], runF 2 [false] b_law⟩
theorem c_law : cSs (fb (cS ["script", "lap"] (co T23 ["script", "lap"] 16) [] (defScope s_law) 1000000 16)) (defBody s_law) = some b_law := by kernel_rfl
@[simp] theorem m_law : F_law.mask = [false] := rfl
theorem u_law : F_law.run = runF 2 [false] b_law := rfl
def T24 : Tab := T23.add "law" F_law kw_law
end K11
namespace K11
open PySem PySem.Spec L2 Z
open PyProof.Rows hiding St

/-! ## what is drawn from -/
def Well (d : D) : Prop := ∃ a b c : Int, d = .list [.int a, .int b, .int c] ∧ 0 ≤ a
@[simp] theorem x_mulM {a b j : Int} (h : 0 < b) (h2 : b ≤ 18446744073709551616) : mulD (.int (a % b)) (.int j) = some (.v (.int (a % b * j))) := by
  have h3 := Int.emod_nonneg a (show b ≠ 0 by omega)
  have h4 := Int.emod_lt_of_pos a h
  exact x_mulL (by omega) (by omega)
theorem below_well {d : D} {m : Int} (h : Well d) (hm : 0 < m) (hm2 : m < 1073741824) : ∃ (r : Int) (d' : D), F_l_below.run [d, .int m] = some (.v (.int r), [d']) ∧ 0 ≤ r ∧ r < m ∧ Well d' := by
  obtain ⟨a, b, c, rfl, ha⟩ := h
  by_cases h : 0 < a
  · refine ⟨a % m, .list [.int (a / m), .int b, .int c], ?_, Int.emod_nonneg _ (by omega), Int.emod_lt_of_pos _ hm, _, _, _, rfl, Int.ediv_nonneg ha (by omega)⟩
    rw [u_l_below, x_run _ _ _ _ rfl, b_l_below]
    (first | (simp (implicitDefEqProofs := false) [h, hm, hm2]; done) | simp [h, hm, hm2])
  · refine ⟨((b * 46965 + 7911 * (c + 1) + 71) % 2147483563 * ((b * 46965 + 7911 * (c + 1) + 71) % 2147483563 % 3989 + 17537) + (c + 1)) % 2147483563 / 359 % m,
      .list [.int a, .int (((b * 46965 + 7911 * (c + 1) + 71) % 2147483563 * ((b * 46965 + 7911 * (c + 1) + 71) % 2147483563 % 3989 + 17537) + (c + 1)) % 2147483563), .int (c + 1)], ?_, Int.emod_nonneg _ (by omega), Int.emod_lt_of_pos _ hm, _, _, _, rfl, ha⟩
    rw [u_l_below, x_run _ _ _ _ rfl, b_l_below]
    (first | (simp (implicitDefEqProofs := false) [h, hm, hm2]; done) | simp [h, hm, hm2])
theorem one_well {d : D} {ds : List D} (h : Well d) (h0 : 0 < ds.length) (h1 : ds.length < 1000) : ∃ (x d' : D), F_l_one.run [d, .tuple ds] = some (.v x, [d']) ∧ x ∈ ds ∧ Well d' := by
  obtain ⟨r, d', h2, r0, r1, w⟩ := below_well (m := (ds.length : Int)) h (by omega) (by omega)
  have e : atI ds r = some ds[r.toNat] := by
    have := atI_of (xs := ds) (j := r.toNat)
    rw [Int.toNat_of_nonneg r0] at this
    rw [this, List.getElem?_eq_getElem (by omega)]
  refine ⟨ds[r.toNat], d', ?_, List.getElem_mem _, w⟩
  rw [u_l_one, x_run _ _ _ _ rfl, b_l_one]
  (first | (simp (implicitDefEqProofs := false) [h2, e]; done) | simp [h2, e])


end K11
namespace K11
open PySem PySem.Spec L2 Z
open PyProof.Rows hiding St

/-! ## texts as lists of numbers -/
abbrev tx (l : List Nat) : Str := ⟨l.toArray⟩
theorem tx_inj {l k : List Nat} (h : tx l = tx k) : l = k := by
  have := congrArg (fun s : Str => s.cps.toList) h
  simpa using this
theorem tx_of (s : Str) : s = tx s.cps.toList := by
  apply PySem.W.str_of_cps
  simp
theorem tx_len (l : List Nat) : (tx l).length = l.length := by
  show l.toArray.size = _
  simp
theorem tx_app (l k : List Nat) : tx l ++ tx k = tx (l ++ k) := by
  apply PySem.W.str_of_cps
  show (l.toArray ++ k.toArray).toList = _
  simp
theorem st_pre (a w : List Nat) : Txt.startswith (tx a) (tx w) = decide (w <+: a) := by
  unfold Txt.startswith Builtin.Str.subAt
  rw [tx_len, tx_len]
  have e : (a.toArray.extract 0 (0 + w.length) == w.toArray) = decide (a.take w.length = w) := by
    rw [Bool.eq_iff_iff]
    simp only [beq_iff_eq, decide_eq_true_eq]
    constructor
    · intro h
      have := congrArg Array.toList h
      simpa using this
    · intro h
      apply Array.ext'
      simpa using h
  show (decide (0 + w.length ≤ a.length) && (a.toArray.extract 0 (0 + w.length) == w.toArray)) = _
  rw [e, ← Bool.decide_and]
  congr 1
  apply propext
  constructor
  · rintro ⟨_, h⟩
    refine ⟨a.drop w.length, ?_⟩
    have := List.take_append_drop w.length a
    rw [h] at this
    exact this
  · rintro ⟨t, rfl⟩
    exact ⟨by simp, by simp⟩
/-! ## which words may follow -/
def fol (n : Nat) : List (List Nat) :=
  if n = 0 then [[49], [50], [51], [52], [53], [54], [55], [56], [57]] else if n < 6 then [[48], [49], [50], [51], [52]] else if n = 6 then [[49], [50], [51], [52]] else if n = 7 then [[121, 101, 115], [110, 111]] else []
def txs (l : List (List Nat)) : List D := l.map fun w => .str (tx w)
theorem txs_tx (l : List (List Nat)) : txs l = (l.map tx).map .str := by unfold txs; rw [List.map_map]; rfl
theorem fig1 : F_figures.run [.int 1, .int 9] = some (.o (.list (txs (fol 0))), []) := by kernel_rfl
theorem fig2 : F_figures.run [.int 0, .int 4] = some (.o (.list (txs (fol 1))), []) := by kernel_rfl
theorem fig3 : F_figures.run [.int 1, .int 4] = some (.o (.list (txs (fol 6))), []) := by kernel_rfl
theorem follow_run (ds : List D) : F_rules_follow.run [.list ds] = some (.o (.list (txs (fol ds.length))), []) := by
  have f1 := fig1
  have f2 := fig2
  have f3 := fig3
  have e1 : ∀ n, n ≠ 0 → n < 6 → fol n = fol 1 := fun n h0 h1 => by unfold fol; (first | (simp (implicitDefEqProofs := false) [h0, h1]; done) | simp [h0, h1])
  rw [u_rules_follow, x_run _ _ _ _ rfl, b_rules_follow]
  have l1 : lenD [.list ds] = some (.v (.int (ds.length : Int))) := rfl
  generalize ds.length = n at *
  generalize PyData.list ds = x at *
  by_cases h0 : n = 0
  · subst h0
    (first | (simp (implicitDefEqProofs := false) [l1, f1]; done) | simp [l1, f1])
  · by_cases h1 : n < 6
    · have h1' : (n : Int) < 6 := by omega
      (first | (simp (implicitDefEqProofs := false) [l1, f2, h0, h1, h1', e1 n h0 h1]; done) | simp [l1, f2, h0, h1, h1', e1 n h0 h1])
    · by_cases h2 : n = 6
      · subst h2
        (first | (simp (implicitDefEqProofs := false) [l1, f3]; done) | simp [l1, f3])
      · by_cases h3 : n = 7
        · subst h3
          (first | (simp (implicitDefEqProofs := false) [l1]; done) | simp [l1])
          rfl
        · have e : fol n = [] := by unfold fol; (first | (simp (implicitDefEqProofs := false) [h0, h1, h2, h3]; done) | simp [h0, h1, h2, h3])
          have h2' : ¬ (n : Int) = 6 := by omega
          have h3' : ¬ (n : Int) = 7 := by omega
          have h1' : ¬ (n : Int) < 6 := by omega
          (first | (simp (implicitDefEqProofs := false) [l1, h0, h1, h2, h3, e, h2', h3', h1', txs]; done) | simp [l1, h0, h1, h2, h3, e, h2', h3', h1', txs])
/-! ## one sign more -/
/-- the words ahead, the word under way -/
abbrev Sta : Type := List (List Nat) × List Nat
def stp (s : Sta) (c : Nat) : Option Sta :=
  if c = 32 ∧ s.2 ∈ fol s.1.length ∧ fol (s.1.length + 1) ≠ [] then some (s.1 ++ [s.2], [])
  else if c ≠ 32 ∧ (fol s.1.length).any (fun w => decide (s.2 ++ [c] <+: w)) = true then some (s.1, s.2 ++ [c])
  else none
theorem begins_run (w : List Nat) (ls : List (List Nat)) (hl : ls.length ≤ 1000) : F_begins_some.run [.str (tx w), .list (txs ls)] = some (.v (.bool (ls.any fun v => decide (w <+: v))), []) := by
  have lc : lcL [2] (gN [] 2) bYes q_begins_some_1 (txs ls) [some (.v (.str (tx w))), some (.v (.list (txs ls))), none] [] = some (ls.map (fun v => .bool (decide (w <+: v))), [some (.v (.str (tx w))), some (.v (.list (txs ls))), none]) := by
    refine lcL_enc (fun v => .str (tx v)) (fun v => .bool (decide (w <+: v))) (by omega) fun v _ => ?_
    have e : startD (.str (tx v)) [.str (tx w)] = some (.v (.bool (decide (w <+: v)))) := by
      show some (RV.v (.bool (Txt.startswith (tx v) (tx w)))) = _
      rw [st_pre]
    generalize tx v = V at *
    generalize tx w = W at *
    exact ⟨[some (.v (.str W)), some (.v (.list (txs ls))), some (.v (.str V))], _, .v (.bool (decide (w <+: v))), [some (.v (.str W)), some (.v (.list (txs ls))), some (.v (.str V))], rfl, rfl, by (first | (simp (implicitDefEqProofs := false) [q_begins_some_1, e]; done) | simp [q_begins_some_1, e]), rfl, rfl⟩
  have an := anyB (fun v : List Nat => decide (w <+: v)) ls
  rw [u_begins_some, x_run _ _ _ _ rfl, b_begins_some]
  generalize txs ls = L at *
  generalize tx w = W at *
  (first | (simp (implicitDefEqProofs := false) [lc, an]; done) | simp [lc, an])
end K11
namespace K11
open PySem PySem.Spec L2 Z
open PyProof.Rows hiding St

/-! ## a sign is read -/
theorem x_eCallV (tb : Str → Option FnS) (i : Nat) (fs : MOs) (ρ : Rho) : eCallV tb i fs ρ = match slot ρ i with
  | some (.dict [(.none, .str nm)]) => (tb nm).bind fun F => (fs ρ).bind fun r => (tvs r.1).bind fun ds => if F.mask.all (fun b => !b) && decide (ds.length = F.mask.length) then (F.run ds).bind fun w => some (w.1, r.2) else none
  | _ => none := rfl
theorem tf : T9.fn "rules_follow" = some F_rules_follow := by kernel_rfl
theorem eq_sp (c : Nat) : eqD (.str (tx [c])) (.str " ") = some (.v (.bool (decide (c = 32)))) := by
  rw [x_eqS]
  congr 4
  apply propext
  constructor
  · intro h
    have := tx_inj (k := [32]) h
    simpa using this
  · rintro rfl; rfl
theorem ne_sp (c : Nat) : neD (.str (tx [c])) (.str " ") = some (.v (.bool (!decide (c = 32)))) := by
  rw [x_neq _ _ rfl, eq_sp]; rfl
theorem in_txs (h : List Nat) (l : List (List Nat)) : inD (.str (tx h)) (.list (txs l)) = some (.v (.bool (decide (h ∈ l)))) := by
  rw [txs_tx, in_strL]
  congr 4
  apply propext
  constructor
  · intro q
    obtain ⟨w, hw, e⟩ := List.mem_map.mp q
    rw [← tx_inj e]; exact hw
  · exact fun q => List.mem_map.mpr ⟨h, q, rfl⟩
theorem txs_app (a b : List (List Nat)) : txs (a ++ b) = txs a ++ txs b := by unfold txs; rw [List.map_append]
theorem txs_len (a : List (List Nat)) : (txs a).length = a.length := by unfold txs; rw [List.length_map]
theorem ne_txs (l : List (List Nat)) : neD (.list (txs l)) (.list []) = some (.v (.bool (!decide (l = [])))) := by
  have := ne_strs (l.map tx) []
  rw [txs_tx]
  have e : (decide (List.map tx l = [])) = decide (l = []) := by congr 1; simp
  rw [e] at this
  exact this
theorem fol_len (n : Nat) : (fol n).length ≤ 9 := by
  unfold fol
  split
  · simp
  · split
    · simp
    · split
      · simp
      · split <;> simp
theorem step_run {f : List (List Nat)} {h : List Nat} (hf : f.length ≤ 8) (hh : h.length ≤ 8) (c : Nat) (i : Int) (T : Option RV) (r2 : RV) (hr : r2.d = .list (txs f)) (o6 : Option RV) :
    match stp (f, h) c with
    | some s => ∃ r2' o6', q_words_of_1 [T, some (.v (fnD "rules_follow")), some r2, some (.v (.str (tx h))), some (.v (.int i)), some (.v (.str (tx [c]))), o6] = some (.nx, [T, some (.v (fnD "rules_follow")), some r2', some (.v (.str (tx s.2))), some (.v (.int i)), some (.v (.str (tx [c]))), o6']) ∧ r2'.d = .list (txs s.1)
    | none => ∃ ρ', q_words_of_1 [T, some (.v (fnD "rules_follow")), some r2, some (.v (.str (tx h))), some (.v (.int i)), some (.v (.str (tx [c]))), o6] = some (.rt (.v (.tuple [.list [], .int i])), ρ') := by
  have t := tf
  have fr := follow_run (txs f)
  have fr2 := follow_run (txs f ++ [.str (tx h)])
  rw [txs_len] at fr
  rw [List.length_append, txs_len, List.length_singleton] at fr2
  have e1 := eq_sp c
  have e2 := ne_sp c
  have e3 := in_txs h (fol f.length)
  have e4 := ne_txs (fol (f.length + 1))
  have e5 := begins_run (h ++ [c]) (fol f.length) (by have := fol_len f.length; omega)
  have e6 : addD (.str (tx h)) (.str (tx [c])) = some (.v (.str (tx (h ++ [c])))) := by
    rw [x_addS (by rw [tx_len, tx_len]; simp; omega), tx_app]
  have e7 : addD (.list (txs f)) (.list [.str (tx h)]) = some (.o (.list (txs f ++ [.str (tx h)]))) := x_addL (by rw [txs_len]; simp; omega)
  have e8 : txs (f ++ [h]) = txs f ++ [.str (tx h)] := by rw [txs_app]; rfl
  have em : tx [] = "" := rfl
  have mk : F_rules_follow.mask = [false] := rfl
  unfold stp
  dsimp only
  have two : r2 = .v (.list (txs f)) ∨ r2 = .o (.list (txs f)) := by cases r2 <;> first | exact .inl (congrArg RV.v hr) | exact .inr (congrArg RV.o hr)
  generalize hH2 : tx (h ++ [c]) = H2 at *
  generalize tx [c] = C at *
  generalize hH : tx h = H1 at *
  by_cases c1 : c = 32
  · by_cases c2 : h ∈ fol f.length
    · by_cases c3 : fol (f.length + 1) = []
      · rw [if_neg (by (first | (simp (implicitDefEqProofs := false) [c3]; done) | simp [c3])), if_neg (by (first | (simp (implicitDefEqProofs := false) [c1]; done) | simp [c1]))]
        generalize txs (fol f.length) = L1 at *
        generalize txs (fol (f.length + 1)) = L2 at *
        generalize txs f = L0 at *
        rcases two with rfl | rfl <;> exact ⟨_, by (first | (simp (implicitDefEqProofs := false) [q_words_of_1, x_eCallV, fnD, t, mk, fr, fr2, e1, e2, e3, e4, e5, e6, e7, c1, c2, c3]; done) | simp [q_words_of_1, x_eCallV, fnD, t, mk, fr, fr2, e1, e2, e3, e4, e5, e6, e7, c1, c2, c3]); rfl⟩
      · rw [if_pos ⟨c1, c2, c3⟩]
        dsimp only
        rw [e8, em]
        generalize txs (fol f.length) = L1 at *
        generalize txs (fol (f.length + 1)) = L2 at *
        generalize txs f = L0 at *
        rcases two with rfl | rfl <;> exact ⟨.o (.list (L0 ++ [.str H1])), some (.o (.list L1)), by (first | (simp (implicitDefEqProofs := false) [q_words_of_1, x_eCallV, fnD, t, mk, fr, fr2, e1, e2, e3, e4, e5, e6, e7, c1, c2, c3]; done) | simp [q_words_of_1, x_eCallV, fnD, t, mk, fr, fr2, e1, e2, e3, e4, e5, e6, e7, c1, c2, c3]), rfl⟩
    · rw [if_neg (by (first | (simp (implicitDefEqProofs := false) [c2]; done) | simp [c2])), if_neg (by (first | (simp (implicitDefEqProofs := false) [c1]; done) | simp [c1]))]
      generalize txs (fol f.length) = L1 at *
      generalize txs (fol (f.length + 1)) = L2 at *
      generalize txs f = L0 at *
      rcases two with rfl | rfl <;> exact ⟨_, by (first | (simp (implicitDefEqProofs := false) [q_words_of_1, x_eCallV, fnD, t, mk, fr, fr2, e1, e2, e3, e4, e5, e6, e7, c1, c2]; done) | simp [q_words_of_1, x_eCallV, fnD, t, mk, fr, fr2, e1, e2, e3, e4, e5, e6, e7, c1, c2]); rfl⟩
  · rw [if_neg (by (first | (simp (implicitDefEqProofs := false) [c1]; done) | simp [c1]))]
    cases c4 : (fol f.length).any (fun w => decide (h ++ [c] <+: w)) with
    | true =>
      rw [c4] at e5
      rw [if_pos ⟨c1, rfl⟩]
      dsimp only
      rw [hH2]
      generalize txs (fol f.length) = L1 at *
      generalize txs (fol (f.length + 1)) = L2 at *
      generalize txs f = L0 at *
      rcases two with rfl | rfl <;> exact ⟨.v (.list L0), some (.v (.list L1)), by (first | (simp (implicitDefEqProofs := false) [q_words_of_1, x_eCallV, fnD, t, mk, fr, fr2, e1, e2, e3, e4, e5, e6, e7, c1]; done) | simp [q_words_of_1, x_eCallV, fnD, t, mk, fr, fr2, e1, e2, e3, e4, e5, e6, e7, c1]), rfl⟩
    | false =>
      rw [c4] at e5
      rw [if_neg (by simp)]
      generalize txs (fol f.length) = L1 at *
      generalize txs (fol (f.length + 1)) = L2 at *
      generalize txs f = L0 at *
      rcases two with rfl | rfl <;> exact ⟨_, by (first | (simp (implicitDefEqProofs := false) [q_words_of_1, x_eCallV, fnD, t, mk, fr, fr2, e1, e2, e3, e4, e5, e6, e7, c1]; done) | simp [q_words_of_1, x_eCallV, fnD, t, mk, fr, fr2, e1, e2, e3, e4, e5, e6, e7, c1]); rfl⟩
end K11
namespace K11
open PySem PySem.Spec L2 Z
open PyProof.Rows hiding St

/-! ## a text is read, sign by sign -/
def enF (i : Nat) : List Nat → List D
  | [] => []
  | c :: cs => .tuple [.int (i : Nat), .str (tx [c])] :: enF (i + 1) cs
theorem enF_map : ∀ (l : List Nat) (i : Nat), (l.map fun c => PyData.str (tx [c])).mapIdx (fun k d => PyData.tuple [.int ((i + k : Nat) : Int), d]) = enF i l
  | [], _ => rfl
  | c :: l, i => by
    rw [List.map_cons, List.mapIdx_cons, enF, ← enF_map l (i + 1)]
    congr 1
    congr 1
    funext k d
    rw [show i + (k + 1) = i + 1 + k by omega]
theorem enum_tx (l : List Nat) : enumD (Z.signs (tx l)) = enF 0 l := by
  have := enF_map l 0
  rw [← this]
  unfold enumD Z.signs
  congr 1
  funext k d
  rw [Nat.zero_add]
def wl : Sta → Nat → List Nat → Nat ⊕ Sta
  | s, _, [] => .inr s
  | s, i, c :: cs => match stp s c with
    | some s' => wl s' (i + 1) cs
    | none => .inl i
theorem fol_none {n : Nat} (h : 8 ≤ n) : fol n = [] := by
  unfold fol
  rw [if_neg (by omega), if_neg (by omega), if_neg (by omega), if_neg (by omega)]
theorem fol_short {n : Nat} {w : List Nat} (h : w ∈ fol n) : w.length ≤ 3 := by
  unfold fol at h
  split at h
  · simp at h; rcases h with rfl | rfl | rfl | rfl | rfl | rfl | rfl | rfl | rfl <;> simp
  · split at h
    · simp at h; rcases h with rfl | rfl | rfl | rfl | rfl <;> simp
    · split at h
      · simp at h; rcases h with rfl | rfl | rfl | rfl <;> simp
      · split at h
        · simp at h; rcases h with rfl | rfl <;> simp
        · cases h
theorem stp_ok {s s' : Sta} {c : Nat} (h : stp s c = some s') (h1 : s.1.length ≤ 7) (h2 : s.2.length ≤ 3) : s'.1.length ≤ 7 ∧ s'.2.length ≤ 3 := by
  unfold stp at h
  split at h
  · rename_i q
    cases h
    refine ⟨?_, by simp⟩
    rw [List.length_append, List.length_singleton]
    exact Nat.le_of_not_lt fun k => q.2.2 (fol_none (by omega))
  · split at h
    · rename_i q
      cases h
      obtain ⟨w, hw, e⟩ := List.any_eq_true.mp q.2
      have := (of_decide_eq_true e).length_le
      have := fol_short hw
      exact ⟨h1, by show (s.2 ++ [c]).length ≤ 3; omega⟩
    · cases h
theorem loop_run (T : Option RV) : ∀ (cs : List Nat) (s : Sta) (i : Nat) (r2 : RV) (o4 o5 o6 : Option RV), s.1.length ≤ 7 → s.2.length ≤ 3 → r2.d = .list (txs s.1) →
    match wl s i cs with
    | .inr s' => ∃ r2' t4 t5 t6, forL (gTn 2 (gCons (gN [] 4) (gCons (gN [] 5) gNil))) q_words_of_1 (enF i cs) [T, some (.v (fnD "rules_follow")), some r2, some (.v (.str (tx s.2))), o4, o5, o6] = some (.nx, [T, some (.v (fnD "rules_follow")), some r2', some (.v (.str (tx s'.2))), t4, t5, t6]) ∧ r2'.d = .list (txs s'.1) ∧ s'.1.length ≤ 7 ∧ s'.2.length ≤ 3
    | .inl j => ∃ ρ', forL (gTn 2 (gCons (gN [] 4) (gCons (gN [] 5) gNil))) q_words_of_1 (enF i cs) [T, some (.v (fnD "rules_follow")), some r2, some (.v (.str (tx s.2))), o4, o5, o6] = some (.rt (.v (.tuple [.list [], .int (j : Nat)])), ρ')
  | [], s, i, r2, o4, o5, o6, h1, h2, hr => ⟨r2, o4, o5, o6, rfl, hr, h1, h2⟩
  | c :: cs, s, i, r2, o4, o5, o6, h1, h2, hr => by
    have st := step_run (f := s.1) (h := s.2) (by omega) (by omega) c (i : Nat) T r2 hr o6
    have g : (gTn 2 (gCons (gN [] 4) (gCons (gN [] 5) gNil))) (.tuple [.int (i : Nat), .str (tx [c])]) [T, some (.v (fnD "rules_follow")), some r2, some (.v (.str (tx s.2))), o4, o5, o6] = some [T, some (.v (fnD "rules_follow")), some r2, some (.v (.str (tx s.2))), some (.v (.int (i : Nat))), some (.v (.str (tx [c]))), o6] := rfl
    cases q : stp s c with
    | none =>
      rw [show stp (s.1, s.2) c = none from q] at st
      obtain ⟨ρ', e⟩ := st
      have ew : wl s i (c :: cs) = .inl i := by unfold wl; rw [q]
      rw [ew]
      refine ⟨ρ', ?_⟩
      rw [enF, forL_cons, g, Option.bind_some, e, Option.bind_some]
    | some s' =>
      rw [show stp (s.1, s.2) c = some s' from q] at st
      obtain ⟨r2', o6', e, hr'⟩ := st
      obtain ⟨b1, b2⟩ := stp_ok q h1 h2
      have ih := loop_run T cs s' (i + 1) r2' (some (.v (.int (i : Nat)))) (some (.v (.str (tx [c])))) o6' b1 b2 hr'
      have ew : wl s i (c :: cs) = wl s' (i + 1) cs := by conv => lhs; unfold wl; rw [q]
      rw [ew]
      rw [enF, forL_cons, g, Option.bind_some, e, Option.bind_some]
      exact ih
end K11
namespace K11
open PySem PySem.Spec L2 Z
open PyProof.Rows hiding St

/-! ## words_of -/
/-- the words of a text, or the index of the first wrong sign -/
def wres (l : List Nat) : Nat ⊕ List (List Nat) := match wl ([], []) 0 l with
  | .inl j => .inl j
  | .inr s => if s.2 ∈ fol s.1.length ∧ fol (s.1.length + 1) = [] then .inr (s.1 ++ [s.2]) else .inl l.length
def wresD : Nat ⊕ List (List Nat) → D
  | .inl j => .tuple [.list [], .int (j : Nat)]
  | .inr ws => .tuple [.list (txs ws), .int (-1)]
theorem eq_txs (l : List (List Nat)) : eqD (.list (txs l)) (.list []) = some (.v (.bool (decide (l = [])))) := by
  have := eq_strs (l.map tx) []
  rw [txs_tx]
  have e : (decide (List.map tx l = [])) = decide (l = []) := by congr 1; simp
  rw [e] at this
  exact this
theorem words_run {l : List Nat} (hl : l.length ≤ 16777216) : F_words_of.run [.str (tx l), fnD "rules_follow"] = some (.v (wresD (wres l)), []) := by
  have t := tf
  have mk : F_rules_follow.mask = [false] := rfl
  have lp := loop_run (some (.v (.str (tx l)))) l ([], []) 0 (.o (.list [])) none none none (by simp) (by simp) rfl
  have en : enuD [.str (tx l)] = some (enF 0 l) := by
    show some (enumD (Z.signs (tx l))) = _
    rw [enum_tx]
  have ln : lenD [.str (tx l)] = some (.v (.int (l.length : Int))) := by
    show (if szb (tx l).length then some (RV.v (.int (tx l).length)) else none) = _
    rw [tx_len, szb_of hl]; rfl
  have e0 : tx [] = "" := rfl
  rw [u_words_of, x_run _ _ _ _ rfl, b_words_of]
  unfold wres
  cases q : wl ([], []) 0 l with
  | inl j =>
    rw [q] at lp
    obtain ⟨ρ', e⟩ := lp
    dsimp only at e
    rw [e0] at e
    dsimp only [wresD]
    generalize enF 0 l = E at *
    generalize tx l = X at *
    simp only [fnD] at *
    (first | (simp (implicitDefEqProofs := false) [en, e]; done) | simp [en, e])
  | inr s =>
    rw [q] at lp
    obtain ⟨r2, t4, t5, t6, e, hr, b1, b2⟩ := lp
    dsimp only at e
    rw [e0] at e
    dsimp only
    have fr := follow_run (txs s.1)
    have fr2 := follow_run (txs s.1 ++ [.str (tx s.2)])
    rw [txs_len] at fr
    rw [List.length_append, txs_len, List.length_singleton] at fr2
    have e3 := in_txs s.2 (fol s.1.length)
    have e4 := eq_txs (fol (s.1.length + 1))
    have e7 : addD (.list (txs s.1)) (.list [.str (tx s.2)]) = some (.o (.list (txs s.1 ++ [.str (tx s.2)]))) := x_addL (by rw [txs_len]; simp; omega)
    have e8 : txs (s.1 ++ [s.2]) = txs s.1 ++ [.str (tx s.2)] := by rw [txs_app]; rfl
    have two : r2 = .v (.list (txs s.1)) ∨ r2 = .o (.list (txs s.1)) := by cases r2 <;> first | exact .inl (congrArg RV.v hr) | exact .inr (congrArg RV.o hr)
    by_cases c2 : s.2 ∈ fol s.1.length
    · by_cases c3 : fol (s.1.length + 1) = []
      · rw [if_pos ⟨c2, c3⟩]
        dsimp only [wresD]
        rw [e8]
        generalize enF 0 l = E at *
        generalize tx l = X at *
        generalize tx s.2 = H1 at *
        generalize txs (fol s.1.length) = L1 at *
        generalize txs (fol (s.1.length + 1)) = L2 at *
        generalize txs s.1 = L0 at *
        simp only [fnD] at *
        rcases two with rfl | rfl <;> (first | (simp (implicitDefEqProofs := false) [x_eCallV, en, e, t, mk, fr, fr2, e3, e4, e7, c2, c3]; done) | simp [x_eCallV, en, e, t, mk, fr, fr2, e3, e4, e7, c2, c3])
      · rw [if_neg (by (first | (simp (implicitDefEqProofs := false) [c3]; done) | simp [c3]))]
        dsimp only [wresD]
        generalize enF 0 l = E at *
        generalize tx l = X at *
        generalize tx s.2 = H1 at *
        generalize txs (fol s.1.length) = L1 at *
        generalize txs (fol (s.1.length + 1)) = L2 at *
        generalize txs s.1 = L0 at *
        simp only [fnD] at *
        rcases two with rfl | rfl <;> (first | (simp (implicitDefEqProofs := false) [x_eCallV, en, ln, e, t, mk, fr, fr2, e3, e4, e7, c2, c3]; done) | simp [x_eCallV, en, ln, e, t, mk, fr, fr2, e3, e4, e7, c2, c3])
    · rw [if_neg (by (first | (simp (implicitDefEqProofs := false) [c2]; done) | simp [c2]))]
      dsimp only [wresD]
      generalize enF 0 l = E at *
      generalize tx l = X at *
      generalize tx s.2 = H1 at *
      generalize txs (fol s.1.length) = L1 at *
      generalize txs (fol (s.1.length + 1)) = L2 at *
      generalize txs s.1 = L0 at *
      simp only [fnD] at *
      rcases two with rfl | rfl <;> (first | (simp (implicitDefEqProofs := false) [x_eCallV, en, ln, e, t, mk, fr, fr2, e3, e4, e7, c2]; done) | simp [x_eCallV, en, ln, e, t, mk, fr, fr2, e3, e4, e7, c2])
end K11
namespace K11
open PySem PySem.Spec L2 Z
open PyProof.Rows hiding St

/-! ## rules_by -/
theorem int_digit {d : Nat} (h : d < 10) : intD [.str (tx [48 + d])] = some (.v (.int (d : Nat))) := by
  match d, h with
  | 0, _ => kernel_rfl
  | 1, _ => kernel_rfl
  | 2, _ => kernel_rfl
  | 3, _ => kernel_rfl
  | 4, _ => kernel_rfl
  | 5, _ => kernel_rfl
  | 6, _ => kernel_rfl
  | 7, _ => kernel_rfl
  | 8, _ => kernel_rfl
  | 9, _ => kernel_rfl
  | n + 10, h => exact absurd h (by omega)
theorem eq_yes (w : List Nat) : eqD (.str (tx w)) (.str "yes") = some (.v (.bool (decide (w = [121, 101, 115])))) := by
  rw [x_eqS]
  congr 4
  apply propext
  constructor
  · exact fun h => tx_inj (k := [121, 101, 115]) h
  · rintro rfl; rfl
theorem rules_lc (ds : List Nat) (hl : ds.length ≤ 1000) (hd : ∀ d ∈ ds, d < 10) (x : Option RV) : lcL [1] (gN [] 1) bYes q_rules_by_1 (ds.map fun d => .str (tx [48 + d])) [x, none] [] = some (ds.map (fun d => .int (d : Nat)), [x, none]) := by
  refine lcL_enc (fun d => .str (tx [48 + d])) (fun d => .int (d : Nat)) (by omega) fun d hk => ?_
  have e := int_digit (hd d hk)
  generalize tx [48 + d] = V at *
  exact ⟨[x, some (.v (.str V))], _, .v (.int (d : Nat)), [x, some (.v (.str V))], rfl, rfl, by (first | (simp (implicitDefEqProofs := false) [q_rules_by_1, e]; done) | simp [q_rules_by_1, e]), rfl, rfl⟩
theorem rules_by_run {a b c d e f g : Nat} (w : List Nat) (h : ∀ x ∈ [a, b, c, d, e, f, g], x < 10) : F_rules_by.run [.list (txs [[48 + a], [48 + b], [48 + c], [48 + d], [48 + e], [48 + f], [48 + g], w])] = some (.v (.tuple [.int (a : Nat), .int (b : Nat), .int (c : Nat), .int (d : Nat), .int (e : Nat), .int (f : Nat), .int (g : Nat), .bool (decide (w = [121, 101, 115]))]), []) := by
  have lc := rules_lc [a, b, c, d, e, f, g] (by simp) h
  have ey := eq_yes w
  simp only [List.map] at lc
  rw [u_rules_by, x_run _ _ _ _ rfl, b_rules_by]
  simp only [txs, List.map]
  generalize tx [48 + a] = A at *
  generalize tx [48 + b] = B at *
  generalize tx [48 + c] = C at *
  generalize tx [48 + d] = D' at *
  generalize tx [48 + e] = E at *
  generalize tx [48 + f] = F at *
  generalize tx [48 + g] = G at *
  generalize tx w = W at *
  generalize decide (w = [121, 101, 115]) = Y at *
  (first | (simp (implicitDefEqProofs := false) [lc, ey]; done) | simp [lc, ey])
end K11
namespace K11
open PySem PySem.Spec L2 Z
open PyProof.Rows hiding St

/-! ## read_rules -/
theorem chk1 {x : D} (h : isiD ["str"] x = true) (hf : isFv x = false) : FX_check_text.run [x] = some (.inl .none) := by
  rw [ux_check_text, x_runX 1 1 _ [x] rfl, bx_check_text]
  simp [sxSeq, x_sxIf, x_sxN, x_sxRaise, h, hf]
theorem chk0 {x : D} (h : isiD ["str"] x = false) (hf : isFv x = false) : FX_check_text.run [x] = some (.inr ⟨"InvalidText", "index", .none⟩) := by
  rw [ux_check_text, x_runX 1 1 _ [x] rfl, bx_check_text]
  simp [sxSeq, x_sxIf, x_sxN, x_sxRaise, h, hf]
theorem read0 {x : D} (h : isiD ["str"] x = false) (hf : isFv x = false) : FX_read_rules.run [x] = some (.inr ⟨"InvalidText", "index", .none⟩) ∧ FX_read_letters.run [x] = some (.inr ⟨"InvalidText", "index", .none⟩) := by
  have c := chk0 h hf
  constructor
  · rw [ux_read_rules, x_runX 3 1 _ [x] rfl, bx_read_rules]
    simp [sxSeq, sxDrop, x_xCall, tvs, c]
  · rw [ux_read_letters, x_runX 3 1 _ [x] rfl, bx_read_letters]
    simp [sxSeq, sxDrop, x_xCall, tvs, c]
theorem chkS (t : Str) : FX_check_text.run [.str t] = some (.inl .none) := chk1 rfl rfl
theorem read_bad {l : List Nat} (hl : l.length ≤ 16777216) {j : Nat} (h : wres l = .inl j) : FX_read_rules.run [.str (tx l)] = some (.inr ⟨"InvalidText", "index", .int (j : Nat)⟩) := by
  have w := words_run hl
  have c := chkS (tx l)
  have e : eqD (.list []) (.list []) = some (.v (.bool true)) := eq_txs []
  rw [h] at w
  dsimp only [wresD] at w
  rw [ux_read_rules, x_runX 3 1 _ [.str (tx l)] rfl, bx_read_rules]
  generalize tx l = X at *
  simp only [fnD] at *
  simp [sxSeq, sxDrop, x_sxIf, x_sxN, x_sxRaise, x_xCall, tvs, c, w, e]
theorem read_good {l : List Nat} (hl : l.length ≤ 16777216) {ws : List (List Nat)} (h : wres l = .inr ws) (hn : ws ≠ []) {d : D} (hr : F_rules_by.run [.list (txs ws)] = some (.v d, [])) : FX_read_rules.run [.str (tx l)] = some (.inl d) := by
  have w := words_run hl
  have c := chkS (tx l)
  have e := eq_txs ws
  rw [h] at w
  rw [decide_eq_false hn] at e
  dsimp only [wresD] at w
  rw [ux_read_rules, x_runX 3 1 _ [.str (tx l)] rfl, bx_read_rules]
  generalize tx l = X at *
  generalize txs ws = W at *
  simp only [fnD] at *
  simp [sxSeq, sxDrop, x_sxIf, x_sxN, x_sxRaise, x_xCall, tvs, c, w, e, hr]
end K11
namespace K11
/-! ## the law's own reading, in plain words -/
def digs (k : Nat) : List Nat := if k = 0 then [49, 50, 51, 52, 53, 54, 55, 56, 57] else if k < 6 then [48, 49, 50, 51, 52] else [49, 50, 51, 52]
def badAt (i c : Nat) : Bool := decide (i < 14) && (if i % 2 = 0 then !decide (c ∈ digs (i / 2)) else !decide (c = 32))
def sc : Nat → List Nat → Option Nat
  | _, [] => none
  | i, c :: cs => if badAt i c then some i else sc (i + 1) cs
def begs : List (List Nat) := [[121], [121, 101], [121, 101, 115], [110], [110, 111]]
def ps : List Nat → Nat → List Nat → Option Nat
  | _, _, [] => none
  | h, i, c :: cs => if h ++ [c] ∈ begs then ps (h ++ [c]) (i + 1) cs else some i
theorem fol_dig {k : Nat} (h : k < 7) : fol k = (digs k).map fun d => [d] := by
  unfold fol digs
  match k, h with
  | 0, _ => rfl
  | 1, _ => rfl
  | 2, _ => rfl
  | 3, _ => rfl
  | 4, _ => rfl
  | 5, _ => rfl
  | 6, _ => rfl
theorem dig_32 {k : Nat} : 32 ∉ digs k := by unfold digs; split; · decide
                                             split <;> decide
theorem fol_ne {k : Nat} (h : k < 8) : fol k ≠ [] := by
  match k, h with
  | 0, _ => decide
  | 1, _ => decide
  | 2, _ => decide
  | 3, _ => decide
  | 4, _ => decide
  | 5, _ => decide
  | 6, _ => decide
  | 7, _ => decide
theorem pre_dig {k c : Nat} (h : k < 7) (p : List Nat) : (fol k).any (fun w => decide (p ++ [c] <+: w)) = decide (p = [] ∧ c ∈ digs k) := by
  rw [fol_dig h, List.any_map, Bool.eq_iff_iff, List.any_eq_true, decide_eq_true_eq]
  constructor
  · rintro ⟨d, hd, e⟩
    have e : p ++ [c] <+: [d] := of_decide_eq_true e
    have l := e.length_le
    rw [List.length_append, List.length_singleton, List.length_singleton] at l
    have : p = [] := List.eq_nil_of_length_eq_zero (by omega)
    subst this
    obtain ⟨t, ht⟩ := e
    simp at ht
    rw [ht.1]; exact ⟨rfl, hd⟩
  · rintro ⟨rfl, h⟩
    exact ⟨c, h, decide_eq_true ⟨[], rfl⟩⟩
theorem stp_even {f : List (List Nat)} (h : f.length < 7) (c : Nat) : stp (f, []) c = if c ∈ digs f.length then some (f, [c]) else none := by
  unfold stp
  have e := pre_dig (c := c) h []
  rw [if_neg]
  · dsimp only
    rw [e]
    by_cases q : c ∈ digs f.length
    · have : c ≠ 32 := fun e => dig_32 (e ▸ q)
      simp [q, this]
    · simp [q]
  · rintro ⟨_, q, _⟩
    rw [fol_dig h] at q
    simp at q
theorem stp_odd {f : List (List Nat)} (h : f.length < 7) {d : Nat} (hd : d ∈ digs f.length) (c : Nat) : stp (f, [d]) c = if c = 32 then some (f ++ [[d]], []) else none := by
  unfold stp
  have e := pre_dig (c := c) h [d]
  by_cases q : c = 32
  · rw [if_pos, if_pos q]
    refine ⟨q, ?_, fol_ne (by show f.length + 1 < 8; omega)⟩
    rw [fol_dig h]
    exact List.mem_map.mpr ⟨d, hd, rfl⟩
  · rw [if_neg (fun k => q k.1), if_neg q]
    dsimp only
    rw [e]
    simp
/-- seven places -/
theorem stage : ∀ (m : Nat) (f : List (List Nat)) (l : List Nat), f.length + m = 7 →
    (∃ j, sc (2 * f.length) l = some j ∧ wl (f, []) (2 * f.length) l = .inl j) ∨
    (sc (2 * f.length) l = none ∧ l.length < 2 * m ∧ ∃ s, wl (f, []) (2 * f.length) l = .inr s ∧ ¬ (s.2 ∈ fol s.1.length ∧ fol (s.1.length + 1) = [])) ∨
    (∃ (ds rest : List Nat), ds.length = m ∧ l = (ds.flatMap fun d => [d, 32]) ++ rest ∧ (∀ d ∈ ds, d - 48 < 10 ∧ 48 ≤ d) ∧ sc (2 * f.length) l = sc 14 rest ∧ wl (f, []) (2 * f.length) l = wl (f ++ ds.map (fun d => [d]), []) 14 rest)
  | 0, f, l, h => .inr (.inr ⟨[], l, rfl, rfl, by simp, by rw [show 2 * f.length = 14 by omega], by rw [show 2 * f.length = 14 by omega]; simp⟩)
  | m + 1, f, [], h => .inr (.inl ⟨rfl, by simp, (f, []), rfl, fun q => by
      rw [show (f, ([] : List Nat)).1 = f from rfl] at q
      exact fol_ne (by omega) q.2⟩)
  | m + 1, f, [c], h => by
    have h7 : f.length < 7 := by omega
    have b : badAt (2 * f.length) c = !decide (c ∈ digs f.length) := by
      unfold badAt
      rw [if_pos (by omega), show 2 * f.length / 2 = f.length by omega, decide_eq_true (show 2 * f.length < 14 by omega), Bool.true_and]
    by_cases q : c ∈ digs f.length
    · right; left
      refine ⟨by simp [sc, b, q], by simp; omega, (f, [c]), by simp [wl, stp_even h7, q], fun k => fol_ne (k := f.length + 1) (by omega) k.2⟩
    · left
      exact ⟨2 * f.length, by simp [sc, b, q], by simp [wl, stp_even h7, q]⟩
  | m + 1, f, c :: d :: cs, h => by
    have h7 : f.length < 7 := by omega
    have b : badAt (2 * f.length) c = !decide (c ∈ digs f.length) := by
      unfold badAt
      rw [if_pos (by omega), show 2 * f.length / 2 = f.length by omega, decide_eq_true (show 2 * f.length < 14 by omega), Bool.true_and]
    have b2 : badAt (2 * f.length + 1) d = !decide (d = 32) := by
      unfold badAt
      rw [if_neg (by omega), decide_eq_true (show 2 * f.length + 1 < 14 by omega), Bool.true_and]
    by_cases q : c ∈ digs f.length
    · by_cases q2 : d = 32
      · subst q2
        have ih := stage m (f ++ [[c]]) cs (by rw [List.length_append, List.length_singleton]; omega)
        have e1 : sc (2 * f.length) (c :: 32 :: cs) = sc (2 * (f ++ [[c]]).length) cs := by
          rw [List.length_append, List.length_singleton]
          simp [sc, b, b2, q]
          rfl
        have e2 : wl (f, []) (2 * f.length) (c :: 32 :: cs) = wl (f ++ [[c]], []) (2 * (f ++ [[c]]).length) cs := by
          rw [List.length_append, List.length_singleton]
          simp [wl, stp_even h7, q, stp_odd h7 q]
          rfl
        rw [e1, e2]
        rcases ih with ih | ⟨i1, i2, s, i3, i4⟩ | ⟨ds, rest, i1, i2, i3, i4, i5⟩
        · exact .inl ih
        · exact .inr (.inl ⟨i1, by simp; omega, s, i3, i4⟩)
        · refine .inr (.inr ⟨c :: ds, rest, by simp [i1], by simp [i2], ?_, i4, ?_⟩)
          · intro x hx
            rcases List.mem_cons.mp hx with rfl | hx
            · have : ∀ k, ∀ x ∈ digs k, x - 48 < 10 ∧ 48 ≤ x := by
                intro k; unfold digs; split; · decide
                split <;> decide
              exact this _ _ q
            · exact i3 x hx
          · rw [i5]; simp
      · left
        exact ⟨2 * f.length + 1, by simp [sc, b, b2, q, q2], by simp [wl, stp_even h7, q, stp_odd h7 q, q2]⟩
    · left
      exact ⟨2 * f.length, by simp [sc, b, q], by simp [wl, stp_even h7, q]⟩
theorem sc_far : ∀ (l : List Nat) (i : Nat), 14 ≤ i → sc i l = none
  | [], _, _ => rfl
  | c :: cs, i, h => by
    unfold sc badAt
    rw [decide_eq_false (by omega), Bool.false_and]
    exact sc_far cs (i + 1) (by omega)
theorem beg_iff (h : List Nat) (c : Nat) : (fol 7).any (fun w => decide (h ++ [c] <+: w)) = decide (h ++ [c] ∈ begs) := by
  have n : h ++ [c] ≠ [] := by simp
  generalize h ++ [c] = p at *
  rw [Bool.eq_iff_iff, decide_eq_true_eq]
  constructor
  · intro q
    obtain ⟨w, hw, e⟩ := List.any_eq_true.mp q
    have e := of_decide_eq_true e
    have hw : w ∈ [[121, 101, 115], [110, 111]] := hw
    have t := List.prefix_iff_eq_take.mp e
    have l := e.length_le
    simp only [List.mem_cons, List.not_mem_nil, or_false] at hw
    rcases hw with rfl | rfl
    · rw [t] at n ⊢
      have l : p.length ≤ 3 := l
      generalize p.length = z at *
      match z, l with
      | 0, _ => exact absurd rfl n
      | 1, _ => decide
      | 2, _ => decide
      | 3, _ => decide
    · rw [t] at n ⊢
      have l : p.length ≤ 2 := l
      generalize p.length = z at *
      match z, l with
      | 0, _ => exact absurd rfl n
      | 1, _ => decide
      | 2, _ => decide
  · intro q
    simp only [begs, List.mem_cons, List.not_mem_nil, or_false] at q
    rcases q with rfl | rfl | rfl | rfl | rfl <;> decide
theorem beg_32 (h : List Nat) : h ++ [32] ∉ begs := by
  intro q
  simp only [begs, List.mem_cons, List.not_mem_nil, or_false] at q
  rcases q with q | q | q | q | q <;> (have := congrArg List.reverse q; simp at this)
theorem wl_end (f : List (List Nat)) (hf : f.length = 7) : ∀ (cs h : List Nat) (i : Nat), wl (f, h) i cs = match ps h i cs with
    | none => .inr (f, h ++ cs)
    | some j => .inl j
  | [], h, i => by simp [wl, ps]
  | c :: cs, h, i => by
    have e : stp (f, h) c = if h ++ [c] ∈ begs then some (f, h ++ [c]) else none := by
      unfold stp
      dsimp only
      rw [hf, if_neg (fun q => q.2.2 rfl), beg_iff]
      by_cases q : h ++ [c] ∈ begs
      · have : c ≠ 32 := fun e => beg_32 h (e ▸ q)
        simp [q, this]
      · simp [q]
    unfold wl ps
    rw [e]
    by_cases q : h ++ [c] ∈ begs
    · rw [if_pos q, if_pos q]
      dsimp only
      rw [wl_end f hf cs (h ++ [c]) (i + 1)]
      cases ps (h ++ [c]) (i + 1) cs with
      | none => simp
      | some j => rfl
    · rw [if_neg q, if_neg q]
/-- what the law's own reading tells -/
theorem due_plain (l : List Nat) :
    (∃ j, sc 0 l = some j ∧ wres l = .inl j) ∨
    (sc 0 l = none ∧ l.length < 14 ∧ wres l = .inl l.length) ∨
    (∃ (ds rest : List Nat), ds.length = 7 ∧ l = (ds.flatMap fun d => [d, 32]) ++ rest ∧ (∀ d ∈ ds, d - 48 < 10 ∧ 48 ≤ d) ∧ sc 0 l = none ∧
      ((rest ∈ [[121, 101, 115], [110, 111]] ∧ wres l = .inr (ds.map (fun d => [d]) ++ [rest])) ∨
       (rest ∉ [[121, 101, 115], [110, 111]] ∧ ∃ j, ps [] 14 rest = some j ∧ wres l = .inl j) ∨
       (rest ∉ [[121, 101, 115], [110, 111]] ∧ ps [] 14 rest = none ∧ wres l = .inl l.length))) := by
  rcases stage 7 [] l rfl with ⟨j, h1, h2⟩ | ⟨h1, h2, s, h3, h4⟩ | ⟨ds, rest, h1, h2, h3, h4, h5⟩
  · left
    refine ⟨j, h1, ?_⟩
    unfold wres
    rw [show 2 * ([] : List (List Nat)).length = 0 from rfl] at h2
    rw [h2]
  · right; left
    refine ⟨h1, h2, ?_⟩
    unfold wres
    rw [show 2 * ([] : List (List Nat)).length = 0 from rfl] at h3
    rw [h3]
    dsimp only
    rw [if_neg h4]
  · right; right
    rw [show 2 * ([] : List (List Nat)).length = 0 from rfl] at h4 h5
    rw [sc_far rest 14 (by omega)] at h4
    refine ⟨ds, rest, h1, h2, h3, h4, ?_⟩
    have hf : (([] : List (List Nat)) ++ ds.map fun d => [d]).length = 7 := by simp [h1]
    have w := wl_end _ hf rest [] 14
    rw [← h5] at w
    unfold wres
    rw [w]
    by_cases q : rest ∈ [[121, 101, 115], [110, 111]]
    · left
      refine ⟨q, ?_⟩
      have e : ps [] 14 rest = none := by
        simp only [List.mem_cons, List.not_mem_nil, or_false] at q
        rcases q with rfl | rfl <;> decide
      rw [e]
      dsimp only
      rw [hf, if_pos ⟨q, by decide⟩]
      rfl
    · right
      cases e : ps [] 14 rest with
      | some j => exact .inl ⟨q, j, rfl, rfl⟩
      | none =>
        right
        refine ⟨q, rfl, ?_⟩
        dsimp only
        rw [hf, if_neg (fun k => q k.1)]
end K11
namespace K11
open PySem PySem.Spec L2 Z
open PyProof.Rows hiding St

/-! ## the law's own reading of rules -/
def bnd (k : Nat) : Str := if k = 0 then "123456789" else if k < 6 then "01234" else "1234"
def bndD : List D := [.str "123456789", .str "01234", .str "01234", .str "01234", .str "01234", .str "01234", .str "1234"]
theorem bnd_ix {k : Nat} (h : k < 7) : ixD (.tuple bndD) (.int (k : Nat)) = some (.v (.str (bnd k))) := by
  match k, h with
  | 0, _ => rfl
  | 1, _ => rfl
  | 2, _ => rfl
  | 3, _ => rfl
  | 4, _ => rfl
  | 5, _ => rfl
  | 6, _ => rfl
theorem bnd_in (c k : Nat) : inD (.str (tx [c])) (.str (bnd k)) = some (.v (.bool (decide (c ∈ digs k)))) := by
  show some (RV.v (.bool (signIn c (bnd k)))) = _
  unfold signIn bnd digs
  congr 4
  by_cases h0 : k = 0
  · rw [if_pos h0, if_pos h0]; rfl
  · rw [if_neg h0, if_neg h0]
    by_cases h1 : k < 6
    · rw [if_pos h1, if_pos h1]; rfl
    · rw [if_neg h1, if_neg h1]; rfl
theorem due_step (T : Option RV) (i c : Nat) (o4 : Option RV) :
    q_l_rules_due_3 [T, some (.v (.tuple bndD)), some (.v (.int (i : Nat))), some (.v (.str (tx [c]))), o4] =
      some (if badAt i c then .rt (.v (.tuple [.int 1, .int (i : Nat)])) else .nx, [T, some (.v (.tuple bndD)), some (.v (.int (i : Nat))), some (.v (.str (tx [c]))), o4]) := by
  have e2 := ne_sp c
  have ev := bnd_in c (i / 2)
  have bx : i < 14 → ixD (.tuple bndD) (.int ((i : Int) / 2)) = some (.v (.str (bnd (i / 2)))) := fun h => by
    have := bnd_ix (k := i / 2) (by omega)
    rwa [Int.natCast_ediv] at this
  unfold badAt
  generalize tx [c] = C at *
  generalize PyData.tuple bndD = B at *
  generalize bnd (i / 2) = W at *
  by_cases h : i < 14
  · have b := bx h
    have h' : (i : Int) < 14 := by omega
    rw [decide_eq_true h, Bool.true_and]
    by_cases q : i % 2 = 0
    · have q' : (i : Int) % 2 = 0 := by omega
      rw [if_pos q]
      generalize (i : Int) = j at *
      by_cases m : c ∈ digs (i / 2)
      · rw [decide_eq_true m] at ev ⊢
        simp [q_l_rules_due_3, h', q', b, ev]
      · rw [decide_eq_false m] at ev ⊢
        simp [q_l_rules_due_3, h', q', b, ev]
    · have q' : (i : Int) % 2 = 1 := by omega
      rw [if_neg q]
      generalize (i : Int) = j at *
      by_cases m : c = 32
      · rw [decide_eq_true m] at e2 ⊢
        simp [q_l_rules_due_3, h', q', e2]
      · rw [decide_eq_false m] at e2 ⊢
        simp [q_l_rules_due_3, h', q', e2]
  · have h' : ¬ (i : Int) < 14 := by omega
    rw [decide_eq_false h, Bool.false_and]
    generalize (i : Int) = j at *
    simp [q_l_rules_due_3, h']
theorem due_loop (T o4 : Option RV) : ∀ (cs : List Nat) (i : Nat) (o2 o3 : Option RV), match sc i cs with
    | some j => ∃ ρ', forL (gTn 2 (gCons (gN [] 2) (gCons (gN [] 3) gNil))) q_l_rules_due_3 (enF i cs) [T, some (.v (.tuple bndD)), o2, o3, o4] = some (.rt (.v (.tuple [.int 1, .int (j : Nat)])), ρ')
    | none => ∃ t2 t3, (t2 = o2 ∨ ∃ n : Int, t2 = some (.v (.int n))) ∧ forL (gTn 2 (gCons (gN [] 2) (gCons (gN [] 3) gNil))) q_l_rules_due_3 (enF i cs) [T, some (.v (.tuple bndD)), o2, o3, o4] = some (.nx, [T, some (.v (.tuple bndD)), t2, t3, o4])
  | [], i, o2, o3 => ⟨o2, o3, .inl rfl, rfl⟩
  | c :: cs, i, o2, o3 => by
    have st := due_step T i c o4
    have g : (gTn 2 (gCons (gN [] 2) (gCons (gN [] 3) gNil))) (.tuple [.int (i : Nat), .str (tx [c])]) [T, some (.v (.tuple bndD)), o2, o3, o4] = some [T, some (.v (.tuple bndD)), some (.v (.int (i : Nat))), some (.v (.str (tx [c]))), o4] := rfl
    cases q : badAt i c with
    | true =>
      have e : sc i (c :: cs) = some i := by unfold sc; rw [q]; rfl
      rw [e]
      rw [q, if_pos rfl] at st
      refine ⟨[T, some (.v (.tuple bndD)), some (.v (.int (i : Nat))), some (.v (.str (tx [c]))), o4], ?_⟩
      rw [enF, forL_cons, g, Option.bind_some, st, Option.bind_some]
    | false =>
      have e : sc i (c :: cs) = sc (i + 1) cs := by
        conv => lhs; unfold sc
        rw [q]; rfl
      rw [e]
      rw [q, if_neg (by decide)] at st
      have ih := due_loop T o4 cs (i + 1) (some (.v (.int (i : Nat)))) (some (.v (.str (tx [c]))))
      rw [enF, forL_cons, g, Option.bind_some, st, Option.bind_some]
      cases q2 : sc (i + 1) cs with
      | some j => rw [q2] at ih; exact ih
      | none =>
        rw [q2] at ih
        obtain ⟨t2, t3, h1, h2⟩ := ih
        exact ⟨t2, t3, .inr (by rcases h1 with rfl | ⟨n, rfl⟩ <;> exact ⟨_, rfl⟩), h2⟩
theorem in_begs (p : List Nat) : inD (.str (tx p)) (.tuple [.str "y", .str "ye", .str "yes", .str "n", .str "no"]) = some (.v (.bool (decide (p ∈ begs)))) := by
  have h := in_strT (tx p) (begs.map tx)
  have e : (decide (tx p ∈ begs.map tx)) = decide (p ∈ begs) := by
    congr 1
    apply propext
    constructor
    · intro q
      obtain ⟨w, hw, e⟩ := List.mem_map.mp q
      rw [← tx_inj e]; exact hw
    · exact fun q => List.mem_map.mpr ⟨p, q, rfl⟩
  rw [e] at h
  exact h
theorem in_ends (p : List Nat) : inD (.str (tx p)) (.tuple [.str "yes", .str "no"]) = some (.v (.bool (decide (p ∈ [[121, 101, 115], [110, 111]])))) := by
  have h := in_strT (tx p) ([[121, 101, 115], [110, 111]].map tx)
  have e : (decide (tx p ∈ [[121, 101, 115], [110, 111]].map tx)) = decide (p ∈ [[121, 101, 115], [110, 111]]) := by
    congr 1
    apply propext
    constructor
    · intro q
      obtain ⟨w, hw, e⟩ := List.mem_map.mp q
      rw [← tx_inj e]; exact hw
    · exact fun q => List.mem_map.mpr ⟨p, q, rfl⟩
  rw [e] at h
  exact h
theorem cutS_tx (l : List Nat) (lo hi : Option Int) : cutS (tx l) lo hi = tx ((l.drop (HT.sIx l.length 0 lo)).take (HT.sIx l.length l.length hi - HT.sIx l.length 0 lo)) := by
  unfold cutS
  rw [tx_len]
theorem sIx_nat (n d k : Nat) : HT.sIx n d (some (k : Int)) = min k n := by
  unfold HT.sIx
  simp
  omega
theorem sl_to {l : List Nat} (hl : l.length ≤ 16777216) (k : Nat) : slD (.str (tx l)) none (some (k : Int)) = some (.v (.str (tx (l.take k)))) := by
  show (if szb (tx l).length then some (RV.v (.str (cutS (tx l) none (some (k : Int))))) else none) = _
  rw [tx_len, szb_of hl, if_pos rfl, cutS_tx, sIx_nat]
  have e : HT.sIx l.length 0 none = 0 := rfl
  rw [e, List.drop_zero, Nat.sub_zero, ← List.take_eq_take_min]
theorem sl_from {l : List Nat} (hl : l.length ≤ 16777216) (k : Nat) : slD (.str (tx l)) (some (k : Int)) none = some (.v (.str (tx (l.drop k)))) := by
  show (if szb (tx l).length then some (RV.v (.str (cutS (tx l) (some (k : Int)) none))) else none) = _
  rw [tx_len, szb_of hl, if_pos rfl, cutS_tx, sIx_nat]
  have e : HT.sIx l.length l.length none = l.length := rfl
  rw [e]
  congr 4
  rw [List.take_of_length_le (by rw [List.length_drop]; omega)]
  by_cases h : k ≤ l.length
  · rw [Nat.min_eq_left h]
  · rw [Nat.min_eq_right (by omega), List.drop_length, List.drop_of_length_le (by omega)]
theorem end_loop (T B o3 : Option RV) : ∀ (cs h : List Nat) (o2 : Option RV), h.length + cs.length ≤ 16777216 → match ps h (14 + h.length) cs with
    | some j => ∃ ρ', forL (gN [] 2) q_l_rules_due_1 ((List.range' h.length cs.length).map fun i : Nat => .int (i : Int)) [T, B, o2, o3, some (.v (.str (tx (h ++ cs))))] = some (.rt (.v (.tuple [.int 1, .int (j : Nat)])), ρ')
    | none => ∃ t2, forL (gN [] 2) q_l_rules_due_1 ((List.range' h.length cs.length).map fun i : Nat => .int (i : Int)) [T, B, o2, o3, some (.v (.str (tx (h ++ cs))))] = some (.nx, [T, B, t2, o3, some (.v (.str (tx (h ++ cs))))])
  | [], h, o2, _ => ⟨o2, rfl⟩
  | c :: cs, h, o2, hl => by
    rw [List.length_cons] at hl
    have s := sl_to (l := h ++ c :: cs) (by rw [List.length_append, List.length_cons]; omega) (h.length + 1)
    have tk : (h ++ c :: cs).take (h.length + 1) = h ++ [c] := by
      rw [show h ++ c :: cs = (h ++ [c]) ++ cs by simp]
      exact List.take_left' (by simp)
    rw [tk] at s
    have i5 := in_begs (h ++ [c])
    have g : (gN [] 2) (.int (h.length : Nat)) [T, B, o2, o3, some (.v (.str (tx (h ++ c :: cs))))] = some [T, B, some (.v (.int (h.length : Nat))), o3, some (.v (.str (tx (h ++ c :: cs))))] := rfl
    have a1 : (((h.length + 1 : Nat) : Int)) = (h.length : Int) + 1 := by omega
    rw [a1] at s
    have st : q_l_rules_due_1 [T, B, some (.v (.int (h.length : Nat))), o3, some (.v (.str (tx (h ++ c :: cs))))] = some (if h ++ [c] ∈ begs then .nx else .rt (.v (.tuple [.int 1, .int (14 + (h.length : Int))])), [T, B, some (.v (.int (h.length : Nat))), o3, some (.v (.str (tx (h ++ c :: cs))))]) := by
      generalize tx (h ++ c :: cs) = X at *
      generalize tx (h ++ [c]) = Y at *
      generalize (h.length : Int) = j at *
      by_cases q : h ++ [c] ∈ begs
      · rw [decide_eq_true q] at i5
        rw [if_pos q]
        simp [q_l_rules_due_1, s, i5]
      · rw [decide_eq_false q] at i5
        rw [if_neg q]
        simp [q_l_rules_due_1, s, i5]
    rw [List.length_cons, List.range'_succ, List.map_cons, forL_cons, g, Option.bind_some, st, Option.bind_some]
    unfold ps
    by_cases q : h ++ [c] ∈ begs
    · rw [if_pos q, if_pos q]
      have ih := end_loop T B o3 cs (h ++ [c]) (some (.v (.int (h.length : Nat)))) (by rw [List.length_append, List.length_singleton]; omega)
      have e1 : h ++ [c] ++ cs = h ++ c :: cs := by simp
      have e2 : (h ++ [c]).length = h.length + 1 := by simp
      rw [e1, e2] at ih
      exact ih
    · rw [if_neg q, if_neg q]
      exact ⟨_, rfl⟩
theorem ix_tx {l : List Nat} (hl : l.length ≤ 16777216) {k c : Nat} (h : l[k]? = some c) : ixD (.str (tx l)) (.int (k : Nat)) = some (.v (.str (tx [c]))) := by
  show (if szb (tx l).length then (atI l (k : Int)).map fun c => RV.v (.str ⟨#[c]⟩) else none) = _
  have hk : k < l.length := (List.getElem?_eq_some_iff.mp h).1
  have e : atI l (k : Int) = some c := by
    unfold atI
    rw [ixN_of, if_pos hk]
    exact h
  rw [tx_len, szb_of hl, if_pos rfl, e]
  rfl
theorem len_tx {l : List Nat} (hl : l.length ≤ 16777216) : lenD [.str (tx l)] = some (.v (.int (l.length : Nat))) := by
  show (if szb (tx l).length then some (RV.v (.int (tx l).length)) else none) = _
  rw [tx_len, szb_of hl]; rfl
end K11
namespace K11
open PySem PySem.Spec L2 Z
open PyProof.Rows hiding St

/-! ## read_rules beside the law's own reading -/
abbrev BD : Option RV := some (.v (.tuple bndD))
theorem seven {ds : List Nat} (h : ds.length = 7) (h2 : ∀ d ∈ ds, d - 48 < 10 ∧ 48 ≤ d) : ∃ a b c d e f g : Nat, ds = [48 + a, 48 + b, 48 + c, 48 + d, 48 + e, 48 + f, 48 + g] ∧ ∀ x ∈ [a, b, c, d, e, f, g], x < 10 := by
  match ds, h, h2 with
  | [a, b, c, d, e, f, g], _, h2 =>
    simp only [List.mem_cons, List.not_mem_nil, or_false, forall_eq_or_imp, forall_eq] at h2
    refine ⟨a - 48, b - 48, c - 48, d - 48, e - 48, f - 48, g - 48, ?_, ?_⟩
    · simp only [List.cons.injEq, and_true]
      omega
    · simp only [List.mem_cons, List.not_mem_nil, or_false, forall_eq_or_imp, forall_eq]
      omega
def rows7 (a b c d e f g : Nat) (rest : List Nat) : List Nat := (48 + a) :: 32 :: (48 + b) :: 32 :: (48 + c) :: 32 :: (48 + d) :: 32 :: (48 + e) :: 32 :: (48 + f) :: 32 :: (48 + g) :: 32 :: rest
theorem due_lc {a b c d e f g : Nat} {rest : List Nat} (h : ∀ x ∈ [a, b, c, d, e, f, g], x < 10) (hl : (rows7 a b c d e f g rest).length ≤ 16777216) (s1 s3 s4 : Option RV) :
    lcL [2] (gN [] 2) bYes q_l_rules_due_2 (Z.upTo 0 7) [some (.v (.str (tx (rows7 a b c d e f g rest)))), s1, none, s3, s4] [] = some ([a, b, c, d, e, f, g].map (fun x => .int (x : Nat)), [some (.v (.str (tx (rows7 a b c d e f g rest)))), s1, none, s3, s4]) := by
  have e0 : [a, b, c, d, e, f, g].map (fun x : Nat => PyData.int (x : Nat)) = (List.range 7).map (fun i => PyData.int (([a, b, c, d, e, f, g].getD i 0 : Nat) : Int)) := rfl
  rw [upTo_range, e0]
  refine lcL_enc (fun i : Nat => .int (i : Int)) (fun i => PyData.int (([a, b, c, d, e, f, g].getD i 0 : Nat) : Int)) (by simp) fun i hi => ?_
  have hi := List.mem_range.mp hi
  have e1 : (rows7 a b c d e f g rest)[2 * i]? = some (48 + [a, b, c, d, e, f, g].getD i 0) := by
    match i, hi with
    | 0, _ => rfl
    | 1, _ => rfl
    | 2, _ => rfl
    | 3, _ => rfl
    | 4, _ => rfl
    | 5, _ => rfl
    | 6, _ => rfl
  have e2 := ix_tx hl e1
  have e3 : [a, b, c, d, e, f, g].getD i 0 < 10 := by
    match i, hi with
    | 0, _ => exact h _ (by simp)
    | 1, _ => exact h _ (by simp)
    | 2, _ => exact h _ (by simp)
    | 3, _ => exact h _ (by simp)
    | 4, _ => exact h _ (by simp)
    | 5, _ => exact h _ (by simp)
    | 6, _ => exact h _ (by simp)
  have e4 := int_digit e3
  have e5 : mulD (.int 2) (.int (i : Nat)) = some (.v (.int ((2 * i : Nat) : Int))) := by
    rw [x_mulL (by omega) (by omega)]; rfl
  generalize tx (rows7 a b c d e f g rest) = X at *
  generalize [a, b, c, d, e, f, g].getD i 0 = y at *
  generalize tx [48 + y] = Y at *
  generalize ((2 * i : Nat) : Int) = j2 at *
  exact ⟨[some (.v (.str X)), s1, some (.v (.int (i : Int))), s3, s4], _, .v (.int (y : Nat)), [some (.v (.str X)), s1, some (.v (.int (i : Int))), s3, s4], rfl, rfl, by simp [q_l_rules_due_2, e2, e4, e5], rfl, rfl⟩
theorem due_run {l : List Nat} (hl : l.length ≤ 16777216) :
    (∃ j, wres l = .inl j ∧ F_l_rules_due.run [.str (tx l)] = some (.v (.tuple [.int 1, .int (j : Nat)]), [])) ∨
    (∃ a b c d e f g rest, (∀ x ∈ [a, b, c, d, e, f, g], x < 10) ∧ wres l = .inr [[48 + a], [48 + b], [48 + c], [48 + d], [48 + e], [48 + f], [48 + g], rest] ∧
      F_l_rules_due.run [.str (tx l)] = some (.v (.tuple [.int 0, .tuple [.int (a : Nat), .int (b : Nat), .int (c : Nat), .int (d : Nat), .int (e : Nat), .int (f : Nat), .int (g : Nat), .bool (decide (rest = [121, 101, 115]))]]), [])) := by
  have lp := due_loop (some (.v (.str (tx l)))) none l 0 none none
  have en : enuD [.str (tx l)] = some (enF 0 l) := by
    show some (enumD (Z.signs (tx l))) = _
    rw [enum_tx]
  have ln := len_tx hl
  have s14 := sl_from hl 14
  have p := due_plain l
  rw [u_l_rules_due, x_run _ _ _ _ rfl, b_l_rules_due]
  rcases p with ⟨j, p1, p2⟩ | ⟨p1, p2, p3⟩ | ⟨ds, rest, p1, p2, p3, p4, p5⟩
  · left
    refine ⟨j, p2, ?_⟩
    rw [p1] at lp
    obtain ⟨ρ', e⟩ := lp
    simp only [bndD] at e
    generalize enF 0 l = E at *
    generalize tx l = X at *
    simp [en, e]
  · left
    refine ⟨_, p3, ?_⟩
    rw [p1] at lp
    obtain ⟨t2, t3, -, e⟩ := lp
    simp only [bndD] at e
    rw [List.drop_of_length_le (by omega)] at s14
    have l0 : lenD [.str (tx [])] = some (.v (.int 0)) := rfl
    have h14 : ¬ (14 : Int) < (l.length : Int) := by omega
    have r0 : rng1 [.int 0] = some [] := rfl
    have f0 : ∀ ρ, forL (gN [] 2) q_l_rules_due_1 [] ρ = some (.nx, ρ) := fun _ => rfl
    have s14' : slD (.str (tx l)) (some 14) none = some (.v (.str (tx []))) := s14
    generalize enF 0 l = E at *
    generalize tx l = X at *
    generalize tx [] = X0 at *
    generalize (l.length : Int) = n at *
    simp [en, e, ln, s14', l0, h14, r0, f0]
  · obtain ⟨a, b, c, d, e0, f, g, hds, hd⟩ := seven p1 p3
    subst hds
    have el : l = rows7 a b c d e0 f g rest := by rw [p2]; rfl
    have dr : l.drop 14 = rest := by rw [el]; rfl
    have lr : l.length = 14 + rest.length := by rw [el]; simp [rows7]; omega
    rw [dr] at s14
    have s14' : slD (.str (tx l)) (some 14) none = some (.v (.str (tx rest))) := s14
    have ie := in_ends rest
    have lnr := len_tx (l := rest) (by omega)
    rw [p4] at lp
    obtain ⟨t2, t3, ht, e⟩ := lp
    simp only [bndD] at e
    rcases p5 with ⟨q, w⟩ | w
    · right
      refine ⟨a, b, c, d, e0, f, g, rest, hd, w, ?_⟩
      have lc := fun s1 s3 s4 => due_lc (rest := rest) hd (el ▸ hl) s1 s3 s4
      rw [← el] at lc
      have h14 : (14 : Int) < (l.length : Int) := by
        have : rest.length ≠ 0 := by
          intro z
          rw [List.eq_nil_of_length_eq_zero z] at q
          revert q; decide
        omega
      rw [decide_eq_true q] at ie
      have ey := eq_yes rest
      simp only [List.map] at lc
      have r7 : rng1 [.int 7] = some (Z.upTo 0 7) := rfl
      generalize enF 0 l = E at *
      generalize tx l = X at *
      generalize tx rest = X0 at *
      generalize (l.length : Int) = n at *
      generalize (rest.length : Int) = n2 at *
      generalize Z.upTo 0 7 = U7 at *
      rcases ht with rfl | ⟨m, rfl⟩ <;> simp [en, e, ln, s14', h14, ie, lc, ey, r7, ownAt]
    · left
      have tT : some (RV.v (.str (tx l))) = some (RV.v (.str (tx l))) := rfl
      have el2 := end_loop (some (.v (.str (tx l)))) (some (.v (.tuple bndD))) t3 rest [] t2 (by rw [List.length_nil]; omega)
      rw [show 14 + ([] : List Nat).length = 14 from rfl] at el2
      have rg : rng1 [.int (rest.length : Int)] = some ((List.range' ([] : List Nat).length rest.length).map fun i : Nat => .int (i : Int)) := by
        rw [x_rng1 (by omega) (by omega), Int.toNat_natCast, upTo_range, List.range_eq_range']; rfl
      rw [List.nil_append] at el2
      simp only [bndD] at el2
      generalize (List.range' ([] : List Nat).length rest.length).map (fun i : Nat => PyData.int (i : Int)) = R at *
      rcases w with ⟨q, j, w1, w2⟩ | ⟨q, w1, w2⟩
      · refine ⟨j, w2, ?_⟩
        rw [w1] at el2
        obtain ⟨ρ', e2⟩ := el2
        rw [decide_eq_false q] at ie
        generalize enF 0 l = E at *
        generalize tx l = X at *
        generalize tx rest = X0 at *
        generalize (l.length : Int) = n at *
        generalize (rest.length : Int) = n2 at *
        by_cases h14 : (14 : Int) < n <;> simp [en, e, ln, lnr, s14', h14, ie, rg, e2]
      · refine ⟨l.length, w2, ?_⟩
        rw [w1] at el2
        obtain ⟨t4, e2⟩ := el2
        rw [decide_eq_false q] at ie
        generalize enF 0 l = E at *
        generalize tx l = X at *
        generalize tx rest = X0 at *
        generalize (l.length : Int) = n at *
        generalize (rest.length : Int) = n2 at *
        by_cases h14 : (14 : Int) < n <;> simp [en, e, ln, lnr, s14', h14, ie, rg, e2]
end K11
namespace K11
open PySem PySem.Spec L2 Z
open PyProof.Rows hiding St

/-! ## the same twice; what is told of a text of rules -/
def plain : Nat → D → Bool
  | _, .none => true
  | _, .bool _ => true
  | _, .int _ => true
  | _, .str _ => true
  | k + 1, .tuple ds => decide (ds.length ≤ 1000) && ds.all (plain k)
  | _, _ => false
theorem zip_same (ds : List D) : zipD ds ds = ds.map fun d => .tuple [d, d] := by
  induction ds with
  | nil => rfl
  | cons d ds ih => rw [zipD, ih]; rfl
theorem same_refl : ∀ (k : Nat) (d : D), plain k d = true → R_l_same (k + 1) [d, d] = some (.v (.bool true), []) := by
  intro k
  induction k with
  | zero =>
    intro d h
    cases d with
    | none => rfl
    | bool b => cases b <;> rfl
    | int i => rw [R_l_same, x_run _ _ _ _ rfl, b_l_same]; simp [isN]
    | str i => rw [R_l_same, x_run _ _ _ _ rfl, b_l_same]; simp [isN]
    | _ => cases h
  | succ k ih =>
    intro d h
    cases d with
    | none => rfl
    | bool b => cases b <;> rfl
    | int i => rw [R_l_same, x_run _ _ _ _ rfl, b_l_same]; simp [isN]
    | str i => rw [R_l_same, x_run _ _ _ _ rfl, b_l_same]; simp [isN]
    | tuple ds =>
      have h : (decide (ds.length ≤ 1000) && ds.all (plain k)) = true := h
      rw [Bool.and_eq_true, decide_eq_true_eq, List.all_eq_true] at h
      have lc : lcL [2, 3] (gTn 2 (gCons (gN [] 2) (gCons (gN [] 3) gNil))) bYes (q_l_same_1 ⟨[false, false], R_l_same (k + 1)⟩) (zipD ds ds) [some (.v (.tuple ds)), some (.v (.tuple ds)), none, none] [] = some ((zipD ds ds).map (fun _ => .bool true), [some (.v (.tuple ds)), some (.v (.tuple ds)), none, none]) := by
        refine lcL_map (fun _ => .bool true) (by rw [zip_same, List.length_map]; omega) fun e he => ?_
        rw [zip_same] at he
        obtain ⟨d, hd, rfl⟩ := List.mem_map.mp he
        exact ⟨[some (.v (.tuple ds)), some (.v (.tuple ds)), some (.v d), some (.v d)], _, .v (.bool true), [some (.v (.tuple ds)), some (.v (.tuple ds)), some (.v d), some (.v d)], by simp, rfl, by simp [q_l_same_1, ih d (h.2 d hd)], rfl, by simp⟩
      have e2 := x_all (boolsOf_mp (fun _ => true) (zipD ds ds))
      have e3 : ((zipD ds ds).map fun _ => true).all id = true := by simp
      rw [e3] at e2
      have e4 : zpD [.tuple ds, .tuple ds] = some (zipD ds ds) := rfl
      rw [R_l_same, x_run _ _ _ _ rfl, b_l_same]
      simp [isN, e4, lc, e2]
    | _ => cases h
theorem plain_mono : ∀ (k : Nat) (d : D), plain k d = true → plain (k + 1) d = true := by
  intro k
  induction k with
  | zero => intro d h; cases d <;> first | rfl | cases h
  | succ k ih =>
    intro d h
    cases d with
    | tuple ds =>
      have h : (decide (ds.length ≤ 1000) && ds.all (plain k)) = true := h
      show (decide (ds.length ≤ 1000) && ds.all (plain (k + 1))) = true
      rw [Bool.and_eq_true, List.all_eq_true] at h ⊢
      exact ⟨h.1, fun x hx => ih x (h.2 x hx)⟩
    | _ => first | rfl | cases h
theorem same_run {d : D} (h : plain 4 d = true) : F_l_same.run [d, d] = some (.v (.bool true), []) := same_refl 4 d h
abbrev cls_ : List Cl := [⟨"InvalidText", some 3, (suT (suC (.int 1)) (suF "index"))⟩, ⟨"LeaseError", none, (suT (suC (.int 2)) (suC .none))⟩]
theorem cl_t : TX3.cl "InvalidText" = some "index" := by kernel_rfl
theorem told_bad {w : Int} (hw : w = 0 ∨ w = 1) {x v : D} (b : Bool) (h : w = 0 → FX_read_rules.run [x] = some (.inr ⟨"InvalidText", "index", v⟩)) (h2 : w = 1 → FX_read_letters.run [x] = some (.inr ⟨"InvalidText", "index", v⟩)) : F_l_told.run [.int w, x, .bool b] = some (.v (.tuple [.int 1, v]), []) := by
  have bd : bt0_l_told [some (.v (.int w)), some (.v x), some (.v (.bool b)), none] = some (.inr ⟨"InvalidText", "index", v⟩, [some (.v (.int w)), some (.v x), some (.v (.bool b)), none]) := by
    rcases hw with rfl | rfl
    · have h := h rfl
      cases b <;> simp [bt0_l_told, sxSeq, x_sxIf, x_sxN, sxRet, xTup2, x_xIf, x_xN, x_xCall, x_xCallK, h]
    · have h := h2 rfl
      cases b <;> simp [bt0_l_told, sxSeq, x_sxIf, x_sxN, sxRet, xTup2, x_xIf, x_xN, x_xCall, x_xCallK, h]
  rw [u_l_told, x_run _ _ _ _ rfl, b_l_told]
  have t := x_sTryN2 (bs := bs_) (cs := cls_) bd cl_t (c := ⟨"InvalidText", some 3, (suT (suC (.int 1)) (suF "index"))⟩) (d := .tuple [.int 1, v]) (i := 3) (by rfl) rfl rfl (by simp)
  simp [t]
theorem told_good {w : Int} (hw : w = 0 ∨ w = 1) {x v : D} (b : Bool) (h : w = 0 → FX_read_rules.run [x] = some (.inl v)) (h2 : w = 1 → FX_read_letters.run [x] = some (.inl v)) : F_l_told.run [.int w, x, .bool b] = some (.v (.tuple [.int 0, v]), []) := by
  have bd : bt0_l_told [some (.v (.int w)), some (.v x), some (.v (.bool b)), none] = some (.inl (.rt (.v (.tuple [.int 0, v]))), [some (.v (.int w)), some (.v x), some (.v (.bool b)), none]) := by
    rcases hw with rfl | rfl
    · have h := h rfl
      cases b <;> simp [bt0_l_told, sxSeq, x_sxIf, x_sxN, sxRet, xTup2, x_xIf, x_xN, x_xCall, x_xCallK, h]
    · have h := h2 rfl
      cases b <;> simp [bt0_l_told, sxSeq, x_sxIf, x_sxN, sxRet, xTup2, x_xIf, x_xN, x_xCall, x_xCallK, h]
  rw [u_l_told, x_run _ _ _ _ rfl, b_l_told]
  have t := x_sTryN1 (cl := TX3.cl) (bs := bs_) (cs := cls_) bd
  simp [t]
theorem rules_same {l : List Nat} (hl : l.length ≤ 16777216) : ∃ d : D, (∀ b, F_l_told.run [.int 0, .str (tx l), .bool b] = some (.v d, [])) ∧ F_l_rules_due.run [.str (tx l)] = some (.v d, []) ∧ F_l_same.run [d, d] = some (.v (.bool true), []) := by
  rcases due_run hl with ⟨j, h1, h2⟩ | ⟨x1, x2, x3, x4, x5, x6, x7, rest, hd, h1, h2⟩
  · exact ⟨_, fun b => told_bad (.inl rfl) b (fun _ => read_bad hl h1) (fun h => by cases h), h2, same_run rfl⟩
  · have r := rules_by_run rest hd
    exact ⟨_, fun b => told_good (.inl rfl) b (fun _ => read_good hl h1 (by simp) r) (fun h => by cases h), h2, same_run rfl⟩
end K11
namespace K11
open PySem PySem.Spec L2 Z
open PyProof.Rows hiding St

/-! ## letters: both readings go through the rows alike -/
theorem split_tx {l : List Nat} (hl : l.length + 2 ≤ 16777216) (c : Nat) : splitD (.str (tx l)) [.str ⟨#[c]⟩] = some (.o (.list (txs (cutN c l)))) := by
  have e := split_chs (tx l) c
  have e1 : chs (tx l) = l := by simp [chs]
  rw [e1] at e
  have e2 : Txt.split (tx l) ⟨#[c]⟩ = (cutN c l).map tx := by
    rw [← e, List.map_map]
    conv => lhs; rw [← List.map_id (Txt.split (tx l) ⟨#[c]⟩)]
    exact List.map_congr_left fun x _ => tx_of x
  show (if decide ((⟨#[c]⟩ : Str).length ≠ 0) && decide ((tx l).length + 2 ≤ 16777216) then some (RV.o (.list ((Txt.split (tx l) ⟨#[c]⟩).map .str))) else none) = _
  have e3 : (⟨#[c]⟩ : Str).length = 1 := rfl
  rw [e3, tx_len, decide_eq_true hl, if_pos (by decide), e2, txs_tx]
def houses : List (List Nat) := [[48], [49], [50], [51]]
def deedsS : List Str := ["create", "renew", "redeem", "delete", "lock", "unlock", "code", "take", "guess", "agree", "refuse"]
def deeds : List (List Nat) := deedsS.map chs
def letW : List (List Nat) → Option D
  | [a, b] => if a ∈ houses ∧ b ∈ deeds then some (.tuple [.int (a.headD 0 - 48 : Nat), .str (tx b)]) else none
  | _ => none
def letr (r : List Nat) : Option D := letW (cutN 32 r)
theorem letW_no : ∀ {ws : List (List Nat)}, ws.length ≠ 2 → letW ws = none
  | [], _ => rfl
  | [a], _ => rfl
  | [a, b], c => absurd rfl c
  | a :: b :: d :: r, _ => rfl
theorem letW_2 (a b : List Nat) : letW [a, b] = if a ∈ houses ∧ b ∈ deeds then some (.tuple [.int (a.headD 0 - 48 : Nat), .str (tx b)]) else none := rfl
theorem figH : F_figures.run [.int 0, .int 3] = some (.o (.list (txs houses)), []) := by kernel_rfl
theorem in_txsT (h : List Nat) (l : List (List Nat)) : inD (.str (tx h)) (.tuple (txs l)) = some (.v (.bool (decide (h ∈ l)))) := by
  rw [txs_tx, in_strT]
  congr 4
  apply propext
  constructor
  · intro q
    obtain ⟨w, hw, e⟩ := List.mem_map.mp q
    rw [← tx_inj e]; exact hw
  · exact fun q => List.mem_map.mpr ⟨h, q, rfl⟩
theorem deeds_D : C_DEEDS = .tuple (txs deeds) := by
  unfold C_DEEDS txs deeds deedsS
  rfl
theorem int_house {a : List Nat} (h : a ∈ houses) : intD [.str (tx a)] = some (.v (.int (a.headD 0 - 48 : Nat))) := by
  simp only [houses, List.mem_cons, List.not_mem_nil, or_false] at h
  rcases h with rfl | rfl | rfl | rfl
  · exact int_digit (d := 0) (by omega)
  · exact int_digit (d := 1) (by omega)
  · exact int_digit (d := 2) (by omega)
  · exact int_digit (d := 3) (by omega)
theorem len_txs (l : List (List Nat)) : lenD [.list (txs l)] = some (.v (.int (l.length : Nat))) := by
  show some (RV.v (.int (txs l).length)) = _
  rw [txs_len]
theorem letter_run {r : List Nat} (hr : r.length + 2 ≤ 16777216) : F_letter_by.run [.str (tx r)] = some (.o (.list (match letr r with
    | none => []
    | some d => [d])), []) := by
  have sp : splitD (.str (tx r)) [.str " "] = some (.o (.list (txs (cutN 32 r)))) := split_tx hr 32
  have fh := figH
  have fm : F_figures.mask = [false, false] := rfl
  have ln := len_txs (cutN 32 r)
  rw [u_letter_by, x_run _ _ _ _ rfl, b_letter_by]
  unfold letr
  generalize cutN 32 r = ws at *
  generalize tx r = X at *
  by_cases c : ws.length = 2
  · match ws, c with
    | [a, b], _ =>
      have ia := in_txs a houses
      have ib := in_txsT b deeds
      rw [← deeds_D] at ib
      rw [letW_2]
      generalize C_DEEDS = CD at *
      generalize txs houses = HH at *
      have tw : txs [a, b] = [.str (tx a), .str (tx b)] := rfl
      rw [tw] at sp ln
      by_cases ca : a ∈ houses
      · have ih := int_house ca
        rw [decide_eq_true ca] at ia
        by_cases cb : b ∈ deeds
        · rw [decide_eq_true cb] at ib
          rw [if_pos ⟨ca, cb⟩]
          generalize tx a = A at *
          generalize tx b = B at *
          generalize ((a.headD 0 - 48 : Nat) : Int) = j at *
          simp [sp, fh, fm, ia, ib, ih]
        · rw [decide_eq_false cb] at ib
          rw [if_neg (fun q => cb q.2)]
          generalize tx a = A at *
          generalize tx b = B at *
          simp [sp, fh, fm, ia, ib]
      · rw [decide_eq_false ca] at ia
        rw [if_neg (fun q => ca q.1)]
        generalize tx a = A at *
        generalize tx b = B at *
        simp [sp, fh, fm, ia]
  · have c' : ¬ (ws.length : Int) = 2 := by omega
    rw [letW_no c]
    generalize txs ws = W at *
    generalize (ws.length : Int) = n at *
    simp [sp, ln, c']
/-- what both tell of rows: the index of the first wrong one, or the letters -/
def lw : Nat → List D → List (List Nat) → Nat ⊕ List D
  | _, f, [] => .inr f
  | i, f, r :: rs => match letr r with
    | none => .inl i
    | some d => if i = 6 then .inl i else lw (i + 1) (f ++ [d]) rs
def enR (i : Nat) : List (List Nat) → List D
  | [] => []
  | r :: rs => .tuple [.int (i : Nat), .str (tx r)] :: enR (i + 1) rs
theorem enR_map : ∀ (l : List (List Nat)) (i : Nat), (txs l).mapIdx (fun k d => PyData.tuple [.int ((i + k : Nat) : Int), d]) = enR i l
  | [], _ => rfl
  | c :: l, i => by
    have e : txs (c :: l) = .str (tx c) :: txs l := rfl
    rw [e, List.mapIdx_cons, enR, ← enR_map l (i + 1)]
    congr 1
    congr 1
    funext k d
    rw [show i + (k + 1) = i + 1 + k by omega]
theorem enum_txs (l : List (List Nat)) : enuD [.list (txs l)] = some (enR 0 l) := by
  show some (enumD (txs l)) = _
  congr 1
  have := enR_map l 0
  rw [← this]
  unfold enumD
  congr 1
  funext k d
  rw [Nat.zero_add]
theorem eq_one (d : D) (h : noDict d = true) (h2 : okE (.list [d]) = true) : eqD (.list [d]) (.list []) = some (.v (.bool false)) := by
  unfold eqD
  rw [h2, if_pos (by rfl)]
  rfl
theorem letr_ok {r : List Nat} {d : D} (h : letr r = some d) : ∃ (i : Nat) (s : Str), d = .tuple [.int (i : Nat), .str s] ∧ i < 4 ∧ s ∈ deedsS := by
  unfold letr at h
  generalize cutN 32 r = ws at h
  match ws, h with
  | [a, b], h =>
    rw [letW_2] at h
    split at h
    · rename_i q
      cases h
      refine ⟨_, _, rfl, ?_, ?_⟩
      · have := q.1
        simp only [houses, List.mem_cons, List.not_mem_nil, or_false] at this
        rcases this with rfl | rfl | rfl | rfl <;> simp
      · obtain ⟨s, hs, e⟩ := List.mem_map.mp q.2
        have : tx b = s := by rw [← e]
        rw [this]; exact hs
    · cases h
theorem by_step {i : Nat} (hi : i ≤ 6) {f : List D} (hf : f.length ≤ 6) {r : List Nat} (hr : r.length + 2 ≤ 16777216) (T R o5 : Option RV) :
    match letr r with
    | none => ∃ ρ', q_letters_by_1 [T, R, some (.v (.tuple f)), some (.v (.int (i : Nat))), some (.v (.str (tx r))), o5] = some (.rt (.v (.tuple [.tuple [], .int (i : Nat)])), ρ')
    | some d => if i = 6 then ∃ ρ', q_letters_by_1 [T, R, some (.v (.tuple f)), some (.v (.int (i : Nat))), some (.v (.str (tx r))), o5] = some (.rt (.v (.tuple [.tuple [], .int (i : Nat)])), ρ')
        else ∃ t5, q_letters_by_1 [T, R, some (.v (.tuple f)), some (.v (.int (i : Nat))), some (.v (.str (tx r))), o5] = some (.nx, [T, R, some (.v (.tuple (f ++ [d]))), some (.v (.int (i : Nat))), some (.v (.str (tx r))), t5]) := by
  have lr := letter_run hr
  have lm : F_letter_by.mask = [false] := rfl
  cases q : letr r with
  | none =>
    rw [q] at lr
    dsimp only at lr ⊢
    have e0 : eqD (.list []) (.list []) = some (.v (.bool true)) := rfl
    generalize tx r = X at *
    generalize (i : Int) = j at *
    exact ⟨_, by simp [q_letters_by_1, lr, lm, e0]; rfl⟩
  | some d =>
    rw [q] at lr
    dsimp only at lr ⊢
    obtain ⟨n, s, rfl, _, _⟩ := letr_ok q
    have e0 : eqD (.list [.tuple [.int (n : Nat), .str s]]) (.list []) = some (.v (.bool false)) := rfl
    by_cases c : i = 6
    · subst c
      rw [if_pos rfl]
      generalize tx r = X at *
      exact ⟨_, by simp [q_letters_by_1, lr, lm, e0]; rfl⟩
    · rw [if_neg c]
      have c' : ¬ (i : Int) = 6 := by omega
      have ad : addD (.tuple f) (.tuple [.tuple [.int (n : Nat), .str s]]) = some (.v (.tuple (f ++ [.tuple [.int (n : Nat), .str s]]))) := x_addTs (by simp; omega)
      generalize PyData.tuple [.int (n : Nat), .str s] = dd at *
      generalize tx r = X at *
      generalize (i : Int) = j at *
      exact ⟨_, by simp [q_letters_by_1, lr, lm, e0, c', ad]; rfl⟩
theorem by_loop (T R : Option RV) : ∀ (rs : List (List Nat)) (i : Nat) (f : List D) (o3 o4 o5 : Option RV), i ≤ 6 → f.length = i → (∀ r ∈ rs, r.length + 2 ≤ 16777216) →
    match lw i f rs with
    | .inl j => ∃ ρ', forL (gTn 2 (gCons (gN [] 3) (gCons (gN [] 4) gNil))) q_letters_by_1 (enR i rs) [T, R, some (.v (.tuple f)), o3, o4, o5] = some (.rt (.v (.tuple [.tuple [], .int (j : Nat)])), ρ')
    | .inr f' => ∃ t3 t4 t5, forL (gTn 2 (gCons (gN [] 3) (gCons (gN [] 4) gNil))) q_letters_by_1 (enR i rs) [T, R, some (.v (.tuple f)), o3, o4, o5] = some (.nx, [T, R, some (.v (.tuple f')), t3, t4, t5])
  | [], i, f, o3, o4, o5, _, _, _ => ⟨o3, o4, o5, rfl⟩
  | r :: rs, i, f, o3, o4, o5, hi, hf, hr => by
    have st := by_step hi (f := f) (by omega) (hr r List.mem_cons_self) T R o5
    have g : (gTn 2 (gCons (gN [] 3) (gCons (gN [] 4) gNil))) (.tuple [.int (i : Nat), .str (tx r)]) [T, R, some (.v (.tuple f)), o3, o4, o5] = some [T, R, some (.v (.tuple f)), some (.v (.int (i : Nat))), some (.v (.str (tx r))), o5] := rfl
    unfold lw
    rw [enR, forL_cons, g, Option.bind_some]
    cases q : letr r with
    | none =>
      rw [q] at st
      obtain ⟨ρ', e⟩ := st
      dsimp only
      rw [e, Option.bind_some]
      exact ⟨ρ', rfl⟩
    | some d =>
      rw [q] at st
      dsimp only at st ⊢
      by_cases c : i = 6
      · rw [if_pos c] at st ⊢
        obtain ⟨ρ', e⟩ := st
        rw [e, Option.bind_some]
        exact ⟨ρ', rfl⟩
      · rw [if_neg c] at st ⊢
        obtain ⟨t5, e⟩ := st
        rw [e, Option.bind_some]
        exact by_loop T R rs (i + 1) (f ++ [d]) _ _ t5 (by omega) (by simp; omega) fun x hx => hr x (List.mem_cons_of_mem _ hx)
theorem deeds_run : F_l_deeds.run [] = some (.v (.tuple (txs deeds)), []) := by kernel_rfl
theorem in_houses (h : List Nat) : inD (.str (tx h)) (.tuple [.str "0", .str "1", .str "2", .str "3"]) = some (.v (.bool (decide (h ∈ houses)))) := in_txsT h houses
theorem law_step {i : Nat} (hi : i ≤ 6) {f : List D} (hf : f.length ≤ 6) {r : List Nat} (hr : r.length + 2 ≤ 16777216) (T R o5 : Option RV) :
    match letr r with
    | none => ∃ ρ', q_l_letters_due_1 [T, R, some (.o (.list f)), some (.v (.int (i : Nat))), some (.v (.str (tx r))), o5] = some (.rt (.v (.tuple [.int 1, .int (i : Nat)])), ρ')
    | some d => if i = 6 then ∃ ρ', q_l_letters_due_1 [T, R, some (.o (.list f)), some (.v (.int (i : Nat))), some (.v (.str (tx r))), o5] = some (.rt (.v (.tuple [.int 1, .int (i : Nat)])), ρ')
        else ∃ t5, q_l_letters_due_1 [T, R, some (.o (.list f)), some (.v (.int (i : Nat))), some (.v (.str (tx r))), o5] = some (.nx, [T, R, some (.o (.list (f ++ [d]))), some (.v (.int (i : Nat))), some (.v (.str (tx r))), t5]) := by
  have sp : splitD (.str (tx r)) [.str " "] = some (.o (.list (txs (cutN 32 r)))) := split_tx hr 32
  have dr := deeds_run
  have dm : F_l_deeds.mask = [] := rfl
  have ln := len_txs (cutN 32 r)
  have fl : f.length < 16777216 := by omega
  unfold letr
  by_cases c6 : i = 6
  · have c6' : (5 : Int) < (i : Int) := by omega
    have e : ∃ ρ', q_l_letters_due_1 [T, R, some (.o (.list f)), some (.v (.int (i : Nat))), some (.v (.str (tx r))), o5] = some (.rt (.v (.tuple [.int 1, .int (i : Nat)])), ρ') := by
      generalize tx r = X at *
      generalize (i : Int) = j at *
      generalize txs (cutN 32 r) = W at *
      exact ⟨_, by simp [q_l_letters_due_1, sp, c6']; rfl⟩
    split
    · exact e
    · rw [if_pos c6]; exact e
  · have c6' : ¬ (5 : Int) < (i : Int) := by omega
    generalize cutN 32 r = ws at *
    generalize tx r = X at *
    by_cases c : ws.length = 2
    · match ws, c with
      | [a, b], _ =>
        have ia := in_houses a
        have ib := in_txsT b deeds
        rw [letW_2]
        generalize txs deeds = CD at *
        have tw : txs [a, b] = [.str (tx a), .str (tx b)] := rfl
        rw [tw] at sp ln
        by_cases ca : a ∈ houses
        · have ih := int_house ca
          rw [decide_eq_true ca] at ia
          by_cases cb : b ∈ deeds
          · rw [decide_eq_true cb] at ib
            rw [if_pos ⟨ca, cb⟩]
            dsimp only
            rw [if_neg c6]
            generalize tx a = A at *
            generalize tx b = B at *
            generalize (i : Int) = j at *
            generalize ((a.headD 0 - 48 : Nat) : Int) = j2 at *
            exact ⟨_, by simp [q_l_letters_due_1, sp, dr, dm, ia, ib, ih, c6', fl]; rfl⟩
          · rw [decide_eq_false cb] at ib
            rw [if_neg (fun q => cb q.2)]
            dsimp only
            generalize tx a = A at *
            generalize tx b = B at *
            generalize (i : Int) = j at *
            exact ⟨_, by simp [q_l_letters_due_1, sp, dr, dm, ia, ib, c6', fl]; rfl⟩
        · rw [decide_eq_false ca] at ia
          rw [if_neg (fun q => ca q.1)]
          dsimp only
          generalize tx a = A at *
          generalize tx b = B at *
          generalize (i : Int) = j at *
          exact ⟨_, by simp [q_l_letters_due_1, sp, dr, dm, ia, c6', fl]; rfl⟩
    · have c' : ¬ (ws.length : Int) = 2 := by omega
      rw [letW_no c]
      dsimp only
      generalize txs ws = W at *
      generalize (ws.length : Int) = n at *
      generalize (i : Int) = j at *
      exact ⟨_, by simp [q_l_letters_due_1, sp, ln, c6', c']; rfl⟩
theorem law_loop (T R : Option RV) : ∀ (rs : List (List Nat)) (i : Nat) (f : List D) (o3 o4 o5 : Option RV), i ≤ 6 → f.length = i → (∀ r ∈ rs, r.length + 2 ≤ 16777216) →
    match lw i f rs with
    | .inl j => ∃ ρ', forL (gTn 2 (gCons (gN [] 3) (gCons (gN [] 4) gNil))) q_l_letters_due_1 (enR i rs) [T, R, some (.o (.list f)), o3, o4, o5] = some (.rt (.v (.tuple [.int 1, .int (j : Nat)])), ρ')
    | .inr f' => ∃ t3 t4 t5, forL (gTn 2 (gCons (gN [] 3) (gCons (gN [] 4) gNil))) q_l_letters_due_1 (enR i rs) [T, R, some (.o (.list f)), o3, o4, o5] = some (.nx, [T, R, some (.o (.list f')), t3, t4, t5])
  | [], i, f, o3, o4, o5, _, _, _ => ⟨o3, o4, o5, rfl⟩
  | r :: rs, i, f, o3, o4, o5, hi, hf, hr => by
    have st := law_step hi (f := f) (by omega) (hr r List.mem_cons_self) T R o5
    have g : (gTn 2 (gCons (gN [] 3) (gCons (gN [] 4) gNil))) (.tuple [.int (i : Nat), .str (tx r)]) [T, R, some (.o (.list f)), o3, o4, o5] = some [T, R, some (.o (.list f)), some (.v (.int (i : Nat))), some (.v (.str (tx r))), o5] := rfl
    unfold lw
    rw [enR, forL_cons, g, Option.bind_some]
    cases q : letr r with
    | none =>
      rw [q] at st
      obtain ⟨ρ', e⟩ := st
      dsimp only
      rw [e, Option.bind_some]
      exact ⟨ρ', rfl⟩
    | some d =>
      rw [q] at st
      dsimp only at st ⊢
      by_cases c : i = 6
      · rw [if_pos c] at st ⊢
        obtain ⟨ρ', e⟩ := st
        rw [e, Option.bind_some]
        exact ⟨ρ', rfl⟩
      · rw [if_neg c] at st ⊢
        obtain ⟨t5, e⟩ := st
        rw [e, Option.bind_some]
        exact law_loop T R rs (i + 1) (f ++ [d]) _ _ t5 (by omega) (by simp; omega) fun x hx => hr x (List.mem_cons_of_mem _ hx)
end K11
namespace K11
open PySem PySem.Spec L2 Z
open PyProof.Rows hiding St

/-! ## read_letters beside the law's own reading -/
theorem lw_ok : ∀ (rs : List (List Nat)) (i : Nat) (f f' : List D), i ≤ 6 → f.length = i → (∀ d ∈ f, plain 1 d = true) → lw i f rs = .inr f' → f'.length ≤ 6 ∧ ∀ d ∈ f', plain 1 d = true
  | [], i, f, f', hi, hf, hp, h => by
    cases h
    exact ⟨by omega, hp⟩
  | r :: rs, i, f, f', hi, hf, hp, h => by
    unfold lw at h
    cases q : letr r with
    | none => rw [q] at h; cases h
    | some d =>
      rw [q] at h
      dsimp only at h
      by_cases c : i = 6
      · rw [if_pos c] at h; cases h
      · rw [if_neg c] at h
        refine lw_ok rs (i + 1) (f ++ [d]) f' (by omega) (by simp; omega) ?_ h
        intro x hx
        rcases List.mem_append.mp hx with hx | hx
        · exact hp x hx
        · rw [List.mem_singleton.mp hx]
          obtain ⟨n, s, rfl, _, _⟩ := letr_ok q
          rfl
theorem rows_cut (l : List Nat) : ∃ (init : List (List Nat)) (last : List Nat), cutN 10 l = init ++ [last] := by
  have h := cutN_ne 10 l
  exact ⟨(cutN 10 l).dropLast, (cutN 10 l).getLast h, (List.dropLast_concat_getLast h).symm⟩
theorem eq_nil (h : List Nat) : eqD (.str (tx h)) (.str "") = some (.v (.bool (decide (h = [])))) := by
  rw [x_eqS]
  congr 4
  apply propext
  constructor
  · intro q
    exact tx_inj (k := []) q
  · rintro rfl; rfl
theorem both_run {l : List Nat} (hl : l.length + 2 ≤ 16777216) :
    (∃ j : Nat, F_letters_by.run [.str (tx l)] = some (.v (.tuple [.tuple [], .int (j : Nat)]), []) ∧ F_l_letters_due.run [.str (tx l)] = some (.v (.tuple [.int 1, .int (j : Nat)]), [])) ∨
    (∃ f : List D, F_letters_by.run [.str (tx l)] = some (.v (.tuple [.tuple f, .int (-1)]), []) ∧ F_l_letters_due.run [.str (tx l)] = some (.v (.tuple [.int 0, .tuple f]), []) ∧ f.length ≤ 6 ∧ ∀ d ∈ f, plain 1 d = true) := by
  have sp : splitD (.str (tx l)) [.str "\n"] = some (.o (.list (txs (cutN 10 l)))) := split_tx hl 10
  obtain ⟨init, last, hc⟩ := rows_cut l
  have hr : ∀ r ∈ init, r.length + 2 ≤ 16777216 := fun r hr => by
    have := (cutN_sub 10 l r (by rw [hc]; exact List.mem_append_left _ hr)).length_le
    omega
  have lb := fun R => by_loop (some (.v (.str (tx l)))) R init 0 [] none none none (by omega) rfl hr
  have ll := fun R => law_loop (some (.v (.str (tx l)))) R init 0 [] none none none (by omega) rfl hr
  have en := enum_txs init
  have el := eq_nil last
  have ok := lw_ok init 0 []
  rw [hc] at sp
  have tw : txs (init ++ [last]) = txs init ++ [.str (tx last)] := by rw [txs_app]; rfl
  have ln := len_txs (init ++ [last])
  have lc : ((init ++ [last]).length : Int) = (init.length : Int) + 1 := by simp
  rw [lc] at ln
  have dl : (txs init ++ [PyData.str (tx last)]).dropLast = txs init := List.dropLast_concat
  have gl : (txs init ++ [PyData.str (tx last)])[(txs init).length]? = some (.str (tx last)) := by simp
  have il : ixD (.list (txs init ++ [PyData.str (tx last)])) (.int (-1)) = some (.v (.str (tx last))) := by
    show (atI (txs init ++ [PyData.str (tx last)]) (-1)).map RV.v = _
    rw [x_atm]; simp
  have cl : slD (.list (txs init ++ [PyData.str (tx last)])) none (some (-1)) = some (.o (.list (txs init))) := by
    show some (RV.o (.list (cut _ none (some (-1))))) = _
    rw [cut_last, dl]
  rw [tw] at sp ln
  rw [u_letters_by, u_l_letters_due, x_run _ _ _ _ rfl, x_run _ _ _ _ rfl, b_letters_by, b_l_letters_due]
  generalize enR 0 init = E at *
  generalize tx l = X at *
  generalize txs init ++ [PyData.str (tx last)] = W at *
  cases q : lw 0 [] init with
  | inl j =>
    left
    obtain ⟨ρ1, e1⟩ := by have := lb (some (.o (.list W))); rw [q] at this; exact this
    obtain ⟨ρ2, e2⟩ := by have := ll (some (.o (.list W))); rw [q] at this; exact this
    refine ⟨j, ?_, ?_⟩
    · simp [sp, cl, en, e1]
    · simp [sp, cl, en, e2]
  | inr f =>
    obtain ⟨t3, t4, t5, e1⟩ := by have := lb (some (.o (.list W))); rw [q] at this; exact this
    obtain ⟨u3, u4, u5, e2⟩ := by have := ll (some (.o (.list W))); rw [q] at this; exact this
    obtain ⟨o1, o2⟩ := ok f (by omega) rfl (by simp) q
    have a1 : (init.length : Int) + 1 - 1 = (init.length : Int) := by omega
    by_cases c : last = []
    · right
      rw [decide_eq_true c] at el
      refine ⟨f, ?_, ?_, o1, o2⟩
      · simp [sp, cl, en, e1, il, el]
      · simp [sp, cl, en, e2, il, el]
    · left
      rw [decide_eq_false c] at el
      refine ⟨init.length, ?_, ?_⟩
      · simp [sp, cl, en, e1, il, el, ln, a1]
      · simp [sp, cl, en, e2, il, el, ln, a1]
theorem letters_same {l : List Nat} (hl : l.length + 2 ≤ 16777216) : ∃ d : D, (∀ b, F_l_told.run [.int 1, .str (tx l), .bool b] = some (.v d, [])) ∧ F_l_letters_due.run [.str (tx l)] = some (.v d, []) ∧ F_l_same.run [d, d] = some (.v (.bool true), []) := by
  have c := chkS (tx l)
  have lm : F_letters_by.mask = [false] := rfl
  rcases both_run hl with ⟨j, h1, h2⟩ | ⟨f, h1, h2, f1, f2⟩
  · have rd : FX_read_letters.run [.str (tx l)] = some (.inr ⟨"InvalidText", "index", .int (j : Nat)⟩) := by
      rw [ux_read_letters, x_runX 3 1 _ [.str (tx l)] rfl, bx_read_letters]
      generalize tx l = X at *
      have j0 : (0 : Int) ≤ (j : Int) := by omega
      generalize (j : Int) = z at *
      simp [sxSeq, sxDrop, x_sxIf, x_sxN, x_sxRaise, x_xCall, tvs, c, h1, lm, j0]
    exact ⟨_, fun b => told_bad (.inr rfl) b (fun h => by cases h) (fun _ => rd), h2, same_run rfl⟩
  · have rd : FX_read_letters.run [.str (tx l)] = some (.inl (.tuple f)) := by
      rw [ux_read_letters, x_runX 3 1 _ [.str (tx l)] rfl, bx_read_letters]
      generalize tx l = X at *
      simp [sxSeq, sxDrop, x_sxIf, x_sxN, x_sxRaise, x_xCall, tvs, c, h1, lm]
    refine ⟨_, fun b => told_good (.inr rfl) b (fun h => by cases h) (fun _ => rd), h2, same_run ?_⟩
    have p : plain 3 (.tuple f) = true := by
      show (decide (f.length ≤ 1000) && f.all (plain 2)) = true
      rw [Bool.and_eq_true, decide_eq_true_eq, List.all_eq_true]
      exact ⟨by omega, fun d hd => plain_mono 1 d (f2 d hd)⟩
    show (decide ([PyData.int 0, .tuple f].length ≤ 1000) && [PyData.int 0, .tuple f].all (plain 3)) = true
    rw [List.all_cons, List.all_cons, p]; rfl
end K11
namespace K11
open PySem PySem.Spec L2 Z
open PyProof.Rows hiding St

/-! ## texts that are drawn are of bounded length -/
theorem cutS_len (z : Str) (lo hi : Option Int) : (cutS z lo hi).length ≤ z.length := by
  have e : chs (cutS z lo hi) = ((chs z).drop (HT.sIx z.length 0 lo)).take (HT.sIx z.length z.length hi - HT.sIx z.length 0 lo) := by unfold cutS; show (_ : Array Nat).toList = _; rw [List.toList_toArray]
  have s : (chs (cutS z lo hi)).Sublist (chs z) := by
    rw [e]; exact (List.take_sublist _ _).trans (List.drop_sublist _ _)
  have := s.length_le
  rwa [chs_len, chs_len] at this
theorem app_len (a b : Str) : (a ++ b).length = a.length + b.length := by
  rw [← chs_len, chs_app, List.length_append, chs_len, chs_len]
theorem sl_str {z : Str} (h : z.length ≤ 10000) (lo hi : Option Int) : slD (.str z) lo hi = some (.v (.str (cutS z lo hi))) := by
  show (if szb z.length then _ else _) = _
  rw [show szb z.length = true from decide_eq_true (by omega)]; rfl
theorem add_str {a b : Str} (h : a.length + b.length ≤ 100000) : addD (.str a) (.str b) = some (.v (.str (a ++ b))) := x_addS (by omega)
theorem len_str {s : Str} (h : s.length ≤ 10000) : lenD [.str s] = some (.v (.int (s.length : Nat))) := by
  show (if szb s.length then some (RV.v (.int s.length)) else none) = _
  rw [szb_of (by omega)]; rfl
def Ws (L : Nat) (ps : List Str) : Prop := (ps.map (·.length)).sum + ps.length ≤ L
theorem sum_sub {f : Str → Nat} {a b : List Str} (h : a.Sublist b) : (a.map f).sum ≤ (b.map f).sum := by
  induction h with
  | slnil => exact Nat.le_refl _
  | cons x _ ih => simp only [List.map_cons, List.sum_cons]; omega
  | cons_cons x _ ih => simp only [List.map_cons, List.sum_cons]; omega
theorem Ws.sub {L : Nat} {a b : List Str} (h : Ws L b) (q : a.Sublist b) : Ws L a := by
  have h1 := sum_sub (f := (·.length)) q
  have h2 := q.length_le
  unfold Ws at *
  omega
theorem Ws.app {L L' : Nat} {a b : List Str} (h : Ws L a) (g : Ws L' b) : Ws (L + L') (a ++ b) := by
  unfold Ws at *
  rw [List.map_append, List.sum_append, List.length_append]
  omega
theorem Ws.mem {L : Nat} {a : List Str} (h : Ws L a) {s : Str} (hs : s ∈ a) : s.length + 1 ≤ L := by
  have := h.sub (List.singleton_sublist.mpr hs)
  unfold Ws at this
  simpa using this
theorem ws_one (s : Str) : Ws (s.length + 1) [s] := by unfold Ws; simp
theorem ws_split {L : Nat} {t : Str} (h : t.length ≤ L) (c : Nat) : Ws (L + 1) (Txt.split t ⟨#[c]⟩) := by
  have w := split_weight t ⟨#[c]⟩ (Nat.le_refl 1)
  unfold Ws
  show ((Txt.split t ⟨#[c]⟩).map (·.length)).sum + (Txt.split t ⟨#[c]⟩).length ≤ _
  omega
theorem ws_join {L : Nat} {ps : List Str} (h : Ws L ps) (c : Nat) : (Txt.join ⟨#[c]⟩ ps).length ≤ L := by
  have e : chs (Txt.join ⟨#[c]⟩ ps) = glueN c (ps.map chs) := by rw [txt_join]; exact join_chs c ps
  rw [← chs_len, e]
  have g := glueN_len c (ps.map chs)
  rw [List.map_map, List.length_map] at g
  have e2 : (ps.map (List.length ∘ chs)).sum = (ps.map (·.length)).sum := by
    congr 1
    first
      | done
      | exact List.map_congr_left fun x _ => chs_len x
  rw [e2] at g
  exact Nat.le_trans g h
theorem mstrs : ∀ ys : List Str, mstrsOf (ys.map .str) = some ys
  | [] => rfl
  | y :: ys => by
    show (mstrsOf (ys.map .str)).bind (fun l => some (y :: l)) = _
    rw [mstrs ys]; rfl
theorem join_run {L : Nat} {ps : List Str} (h : Ws L ps) (hL : L ≤ 100000) (c : Nat) : mjoinD (.str ⟨#[c]⟩) [.list (ps.map .str)] = some (.v (.str (Txt.join ⟨#[c]⟩ ps))) := by
  show mjoinG ⟨#[c]⟩ (ps.map .str) = _
  unfold mjoinG
  rw [mstrs, Option.bind_some, if_pos]
  unfold Ws at h
  have e : (⟨#[c]⟩ : Str).length = 1 := rfl
  rw [e]
  exact decide_eq_true (by omega)
theorem cut_map (xs : List Str) (lo hi : Option Int) : ∃ ys : List Str, cut (xs.map PyData.str) lo hi = ys.map .str ∧ ys.Sublist xs := by
  unfold cut
  exact ⟨(xs.drop _).take _, by rw [List.map_take, List.map_drop], (List.take_sublist _ _).trans (List.drop_sublist _ _)⟩
theorem sl_strs (xs : List Str) (lo hi : Option Int) : ∃ ys : List Str, slD (.list (xs.map PyData.str)) lo hi = some (.o (.list (ys.map .str))) ∧ ys.Sublist xs := by
  obtain ⟨ys, e, h⟩ := cut_map xs lo hi
  exact ⟨ys, by show some (RV.o (.list (cut (xs.map PyData.str) lo hi))) = _; rw [e], h⟩
theorem add_strs {L L' : Nat} {a b : List Str} (h : Ws L a) (g : Ws L' b) (hL : L + L' ≤ 100000) : addD (.list (a.map .str)) (.list (b.map .str)) = some (.o (.list ((a ++ b).map .str))) := by
  rw [List.map_append]
  unfold Ws at *
  exact x_addL (by rw [List.length_map, List.length_map]; omega)
theorem ix_strs {ps : List Str} {o : Int} (o0 : 0 ≤ o) (o1 : o < ps.length) : ∃ s, ixD (.list (ps.map .str)) (.int o) = some (.v (.str s)) ∧ s ∈ ps := by
  obtain ⟨k, rfl⟩ := Int.eq_ofNat_of_zero_le o0
  have hk : k < ps.length := by omega
  refine ⟨ps[k], ?_, List.getElem_mem hk⟩
  show (atI (ps.map PyData.str) (k : Int)).map RV.v = _
  rw [atI_of, List.getElem?_map, List.getElem?_eq_getElem hk]; rfl
theorem len_strs (ps : List Str) : lenD [.list (ps.map .str)] = some (.v (.int (ps.length : Nat))) := by
  show some (RV.v (.int (ps.map PyData.str).length)) = _
  rw [List.length_map]
def shortS (n : Nat) : D → Bool
  | .str s => decide (s.length ≤ n)
  | _ => false
theorem short_get {n : Nat} {ds : List D} (h : ds.all (shortS n) = true) {x : D} (hx : x ∈ ds) : ∃ s, x = .str s ∧ s.length ≤ n := by
  have := List.all_eq_true.mp h x hx
  cases x with
  | str s => exact ⟨s, rfl, of_decide_eq_true this⟩
  | _ => cases this
theorem one_sign {d : D} (h : Well d) {s : Str} (h0 : 0 < s.length) (h1 : s.length ≤ 1000) : ∃ (c : Nat) (d' : D), F_l_one.run [d, .str s] = some (.v (.str ⟨#[c]⟩), [d']) ∧ Well d' := by
  obtain ⟨r, d', h2, r0, r1, w⟩ := below_well (m := (s.length : Int)) h (by omega) (by omega)
  obtain ⟨k, rfl⟩ := Int.eq_ofNat_of_zero_le r0
  have hk : k < s.cps.toList.length := by rw [Array.length_toList]; exact Int.ofNat_lt.mp r1
  have e : ixD (.str s) (.int (k : Int)) = some (.v (.str ⟨#[s.cps.toList[k]]⟩)) := by
    show (if szb s.length then (atI s.cps.toList (k : Int)).map fun c => RV.v (.str ⟨#[c]⟩) else none) = _
    have e : atI s.cps.toList (k : Int) = some s.cps.toList[k] := by
      unfold atI
      rw [ixN_of, if_pos hk]
      exact List.getElem?_eq_getElem hk
    rw [show szb s.length = true from decide_eq_true (by omega), e]; rfl
  have ln := len_str (s := s) (by omega)
  refine ⟨s.cps.toList[k], d', ?_, w⟩
  rw [u_l_one, x_run _ _ _ _ rfl, b_l_one]
  generalize (s.length : Int) = n at *
  generalize s.cps.toList[k] = c at *
  simp [h2, e, ln]
abbrev sgs : Str := " 0123459ynbhgwf-+_Ax\n\t"
abbrev tails : List D := [.str " ", .str "\n", .str "0", .str " none", .str " yes", .str " 1"]
abbrev oddW : List D := [.str "0", .str "1", .str "2", .str "3", .str "4", .str "5", .str "9", .str "10", .str "18", .str "19", .str "01", .str "yes", .str "no", .str "none", .str "by", .str "free", .str "held", .str "grace", .str "hold", .str "wait", .str "", .str "no no"]
theorem bent_run {d : D} (hd : Well d) {t : Str} {L : Nat} (h : t.length ≤ L) (hL : L ≤ 1000) : ∃ (t' : Str) (d' : D), F_l_bent_text.run [d, .str t] = some (.v (.str t'), [d']) ∧ t'.length ≤ 3 * L + 10 ∧ Well d' := by
  obtain ⟨a, d1, h1, a0, a1, w1⟩ := below_well (m := (t.length : Int) + 1) hd (by omega) (by omega)
  obtain ⟨r, d2, h2, r0, r9, w2⟩ := below_well (m := 9) w1 (by omega) (by omega)
  obtain ⟨c, d3, h3, w3⟩ := one_sign (s := sgs) w2 (by decide) (by decide)
  have ln := len_str (s := t) (by omega)
  have lc : (⟨#[c]⟩ : Str).length = 1 := rfl
  have s1 := sl_str (z := t) (by omega) none (some a)
  have s2 := sl_str (z := t) (by omega) (some a) none
  have s3 := sl_str (z := t) (by omega) (some (a + 1)) none
  have m1 := cutS_len t none (some a)
  have m2 := cutS_len t (some a) none
  have m3 := cutS_len t (some (a + 1)) none
  rw [u_l_bent_text, x_run _ _ _ _ rfl, b_l_bent_text]
  have cs : r = 0 ∨ r = 1 ∨ r = 2 ∨ r = 3 ∨ r = 4 ∨ 5 ≤ r := by omega
  rcases cs with rfl | rfl | rfl | rfl | rfl | c5
  · generalize cutS t none (some a) = x at *
    refine ⟨x, d3, ?_, by omega, w3⟩
    generalize (t.length : Int) = n at *
    generalize (⟨#[c]⟩ : Str) = C at *
    simp [h1, h2, h3, ln, s1]
  · generalize cutS t none (some a) = x at *
    generalize cutS t (some a) none = y at *
    have ad1 := add_str (a := x) (b := ⟨#[c]⟩) (by omega)
    have l1 := app_len x ⟨#[c]⟩
    have ad2 := add_str (a := x ++ ⟨#[c]⟩) (b := y) (by omega)
    have l2 := app_len (x ++ ⟨#[c]⟩) y
    refine ⟨x ++ ⟨#[c]⟩ ++ y, d3, ?_, by omega, w3⟩
    generalize (t.length : Int) = n at *
    generalize x ++ (⟨#[c]⟩ : Str) = z at *
    generalize z ++ y = u at *
    generalize (⟨#[c]⟩ : Str) = C at *
    simp [h1, h2, h3, ln, s1, s2, ad1, ad2]
  · generalize cutS t none (some a) = x at *
    generalize cutS t (some (a + 1)) none = y at *
    have ad2 := add_str (a := x) (b := y) (by omega)
    have l2 := app_len x y
    refine ⟨x ++ y, d3, ?_, by omega, w3⟩
    generalize (t.length : Int) = n at *
    generalize x ++ y = u at *
    generalize (⟨#[c]⟩ : Str) = C at *
    simp [h1, h2, h3, ln, s1, s3, ad2]
  · generalize cutS t none (some a) = x at *
    generalize cutS t (some (a + 1)) none = y at *
    have ad1 := add_str (a := x) (b := ⟨#[c]⟩) (by omega)
    have l1 := app_len x ⟨#[c]⟩
    have ad2 := add_str (a := x ++ ⟨#[c]⟩) (b := y) (by omega)
    have l2 := app_len (x ++ ⟨#[c]⟩) y
    refine ⟨x ++ ⟨#[c]⟩ ++ y, d3, ?_, by omega, w3⟩
    generalize (t.length : Int) = n at *
    generalize x ++ (⟨#[c]⟩ : Str) = z at *
    generalize z ++ y = u at *
    generalize (⟨#[c]⟩ : Str) = C at *
    simp [h1, h2, h3, ln, s1, s3, ad1, ad2]
  · obtain ⟨x, d4, h4, hx, w4⟩ := one_well (ds := tails) w3 (by decide) (by decide)
    obtain ⟨s, rfl, hs⟩ := short_get (n := 5) (ds := tails) (by kernel_rfl) hx
    have ad := add_str (a := t) (b := s) (by omega)
    have l1 := app_len t s
    refine ⟨t ++ s, d4, ?_, by omega, w4⟩
    generalize (t.length : Int) = n at *
    generalize t ++ s = u at *
    generalize (⟨#[c]⟩ : Str) = C at *
    simp only [tails] at h4
    simp [h1, h2, h3, h4, ln, ad]
  · have sp : splitD (.str t) [.str " "] = some (.o (.list ((Txt.split t ⟨#[32]⟩).map .str))) := by
      show (if decide ((⟨#[32]⟩ : Str).length ≠ 0) && decide (t.length + 2 ≤ 16777216) then some (RV.o (.list ((Txt.split t ⟨#[32]⟩).map .str))) else none) = _
      rw [decide_eq_true (show t.length + 2 ≤ 16777216 by omega)]; rfl
    have ws := ws_split h 32
    have sp0 := split_pos t ⟨#[32]⟩
    generalize Txt.split t ⟨#[32]⟩ = ps at *
    have lp := len_strs ps
    have pl : ps.length ≤ L + 1 := by unfold Ws at ws; omega
    obtain ⟨o, d4, h4, o0, o1, w4⟩ := below_well (m := (ps.length : Int)) w3 (by omega) (by omega)
    obtain ⟨y1, e1, q1⟩ := sl_strs ps none (some o)
    obtain ⟨y2, e2, q2⟩ := sl_strs ps (some (o + 1)) none
    obtain ⟨y3, e3, q3⟩ := sl_strs ps (some o) none
    obtain ⟨p, e4, q4⟩ := ix_strs o0 o1
    have b1 := ws.sub q1
    have b2 := ws.sub q2
    have b3 := ws.sub q3
    have bp := ws.mem q4
    have n0 : ¬ r = 0 := by omega
    have n1 : ¬ r = 1 := by omega
    have n2 : ¬ r = 2 := by omega
    have n3 : ¬ r = 3 := by omega
    have n4 : ¬ r = 4 := by omega
    by_cases r5 : r = 5
    · subst r5
      have ad := add_strs b1 b2 (by omega)
      have bw : Ws (2 * L + 2) (y1 ++ y2) := by have := b1.app b2; unfold Ws at *; omega
      have jn : mjoinD (.str " ") [.list ((y1 ++ y2).map .str)] = some (.v (.str (Txt.join ⟨#[32]⟩ (y1 ++ y2)))) := join_run bw (by omega) 32
      have jl := ws_join bw 32
      generalize (y1 ++ y2).map PyData.str = Y at *
      generalize Txt.join ⟨#[32]⟩ (y1 ++ y2) = z at *
      refine ⟨z, d4, ?_, by omega, w4⟩
      generalize y1.map PyData.str = Y1 at *
      generalize y2.map PyData.str = Y2 at *
      generalize ps.map PyData.str = PS at *
      generalize (t.length : Int) = n at *
      generalize (ps.length : Int) = n' at *
      generalize (⟨#[c]⟩ : Str) = C at *
      simp [h1, h2, h3, h4, ln, sp, lp, e1, e2, ad, jn]
    · by_cases r6 : r = 6
      · subst r6
        have bo : Ws (L + 1) [p] := by have := ws_one p; unfold Ws at *; omega
        have bw1 := b1.app bo
        have ad1 : addD (.list (y1.map .str)) (.list [.str p]) = some (.o (.list ((y1 ++ [p]).map .str))) := add_strs b1 bo (by omega)
        have ad2 := add_strs bw1 b3 (by omega)
        have bw : Ws (3 * L + 3) (y1 ++ [p] ++ y3) := by have := bw1.app b3; unfold Ws at *; omega
        have jn : mjoinD (.str " ") [.list ((y1 ++ [p] ++ y3).map .str)] = some (.v (.str (Txt.join ⟨#[32]⟩ (y1 ++ [p] ++ y3)))) := join_run bw (by omega) 32
        have jl := ws_join bw 32
        generalize (y1 ++ [p] ++ y3).map PyData.str = Y at *
        generalize Txt.join ⟨#[32]⟩ (y1 ++ [p] ++ y3) = z at *
        refine ⟨z, d4, ?_, by omega, w4⟩
        generalize (y1 ++ [p]).map PyData.str = YP at *
        generalize y1.map PyData.str = Y1 at *
        generalize y3.map PyData.str = Y3 at *
        generalize ps.map PyData.str = PS at *
        generalize (t.length : Int) = n at *
        generalize (ps.length : Int) = n' at *
        generalize (⟨#[c]⟩ : Str) = C at *
        simp [h1, h2, h3, h4, ln, sp, lp, e1, e3, e4, ad1, ad2, jn]
      · obtain ⟨x, d5, h5, hx, w5⟩ := one_well (ds := oddW) w4 (by decide) (by decide)
        obtain ⟨p', rfl, hs⟩ := short_get (n := 5) (ds := oddW) (by kernel_rfl) hx
        have bo : Ws 6 [p'] := by have := ws_one p'; unfold Ws at *; omega
        have bw1 := b1.app bo
        have ad1 : addD (.list (y1.map .str)) (.list [.str p']) = some (.o (.list ((y1 ++ [p']).map .str))) := add_strs b1 bo (by omega)
        have ad2 := add_strs bw1 b2 (by omega)
        have bw : Ws (2 * L + 8) (y1 ++ [p'] ++ y2) := by have := bw1.app b2; unfold Ws at *; omega
        have jn : mjoinD (.str " ") [.list ((y1 ++ [p'] ++ y2).map .str)] = some (.v (.str (Txt.join ⟨#[32]⟩ (y1 ++ [p'] ++ y2)))) := join_run bw (by omega) 32
        have jl := ws_join bw 32
        generalize (y1 ++ [p'] ++ y2).map PyData.str = Y at *
        generalize Txt.join ⟨#[32]⟩ (y1 ++ [p'] ++ y2) = z at *
        refine ⟨z, d5, ?_, by omega, w5⟩
        generalize (y1 ++ [p']).map PyData.str = YP at *
        generalize y1.map PyData.str = Y1 at *
        generalize y2.map PyData.str = Y2 at *
        generalize ps.map PyData.str = PS at *
        generalize (t.length : Int) = n at *
        generalize (ps.length : Int) = n' at *
        generalize (⟨#[c]⟩ : Str) = C at *
        simp only [oddW] at h5
        simp [h1, h2, h3, h4, h5, ln, sp, lp, e1, e2, ad1, ad2, jn, n0, n1, n2, n3, n4, r5, r6]
end K11
namespace K11
open PySem PySem.Spec L2 Z
open PyProof.Rows hiding St

/-! ## drawn rules, their text -/
theorem len_up (k : Nat) : (Z.upTo 0 k).length = k := by unfold Z.upTo; rw [List.length_map, List.length_range]
theorem str_small {i : Int} (h0 : 0 ≤ i) (h1 : i ≤ 9) : ∃ s : Str, strD [.int i] = some (.v (.str s)) ∧ s.length ≤ 1 := by
  obtain ⟨k, rfl⟩ := Int.eq_ofNat_of_zero_le h0
  have hk : k < 10 := by omega
  refine ⟨toString (k : Int), x_strI (by
    have : ((k : Int)).natAbs = k := rfl
    rw [this]
    have := Nat.log2_lt (n := k) (k := 1920)
    match k, hk with
    | 0, _ => decide
    | 1, _ => decide
    | 2, _ => decide
    | 3, _ => decide
    | 4, _ => decide
    | 5, _ => decide
    | 6, _ => decide
    | 7, _ => decide
    | 8, _ => decide
    | 9, _ => decide), ?_⟩
  match k, hk with
  | 0, _ => decide +kernel
  | 1, _ => decide +kernel
  | 2, _ => decide +kernel
  | 3, _ => decide +kernel
  | 4, _ => decide +kernel
  | 5, _ => decide +kernel
  | 6, _ => decide +kernel
  | 7, _ => decide +kernel
  | 8, _ => decide +kernel
  | 9, _ => decide +kernel
def Days (n : Int) (x : D) : Prop := ∃ i : Int, x = .int i ∧ 0 ≤ i ∧ i ≤ n
theorem plan_lc {d : D} (hd : Well d) : ∃ acc ρ', lcL [2] (gN [] 2) bYes q_l_great_plan_1 (Z.upTo 0 5) [some (.o d), none, none] [] = some (acc, ρ') ∧ acc.length + ([] : List D).length = 5 ∧ (∀ x ∈ acc, Days 9 x) ∧ ∃ d', ρ' = [some (.o d'), none, none] ∧ Well d' := by
  refine lcL_st (I := fun ds acc ρ => acc.length + ds.length = 5 ∧ (∀ x ∈ acc, Days 9 x) ∧ ∃ d', ρ = [some (.o d'), none, none] ∧ Well d') (fun e ds acc ρ hI => ?_) _ _ _ ⟨rfl, (fun x h => by cases h), d, rfl, hd⟩
  obtain ⟨h1, h2, d, rfl, w⟩ := hI
  obtain ⟨r, d1, g1, r0, r1, w1⟩ := below_well (m := 5) w (by decide) (by decide)
  obtain ⟨x, d2, g2, hx, w2⟩ := one_well (ds := [.int 0, .int 4, .int r]) w1 (by simp) (by simp)
  refine ⟨[some (.o d), none, some (.v e)], [some (.o d), none, some (.v e)], true, by simp, rfl, .v x, [some (.o d2), none, some (.v e)], by simp [q_l_great_plan_1, g1, g2], by rw [List.length_cons] at h1; omega, ?_, ?_, d2, by simp, w2⟩
  · rw [List.length_append, List.length_singleton]; rw [List.length_cons] at h1; omega
  · intro y hy
    rcases List.mem_append.mp hy with hy | hy
    · exact h2 y hy
    · have e : y = x := List.mem_singleton.mp hy
      subst e
      simp only [List.mem_cons, List.not_mem_nil, or_false] at hx
      rcases hx with rfl | rfl | rfl
      · exact ⟨0, rfl, by omega, by omega⟩
      · exact ⟨4, rfl, by omega, by omega⟩
      · exact ⟨r, rfl, r0, by omega⟩
theorem plan_run {d : D} (hd : Well d) : ∃ (ps : List D) (b : Bool) (d' : D), F_l_great_plan.run [d] = some (.v (.tuple (ps ++ [.bool b])), [d']) ∧ ps.length = 7 ∧ (∀ x ∈ ps, Days 9 x) ∧ Well d' := by
  obtain ⟨acc, ρ', h1, h2, h3, d1, rfl, w1⟩ := plan_lc hd
  match acc, h2 with
  | [a, b, c, e, f], _ =>
    obtain ⟨x, d2, g1, x0, x1, w2⟩ := below_well (m := 9) w1 (by decide) (by decide)
    obtain ⟨y, d3, g2, y0, y1, w3⟩ := below_well (m := 4) w2 (by decide) (by decide)
    obtain ⟨z, d4, g3, z0, z1, w4⟩ := below_well (m := 2) w3 (by decide) (by decide)
    refine ⟨[.int (1 + x), a, b, c, e, f, .int (1 + y)], decide (z = 0), d4, ?_, rfl, ?_, w4⟩
    · rw [u_l_great_plan, x_run _ _ _ _ rfl, b_l_great_plan]
      simp [h1, g1, g2, g3]
    · intro q hq
      simp only [List.mem_cons, List.not_mem_nil, or_false] at hq
      rcases hq with rfl | rfl | rfl | rfl | rfl | rfl | rfl
      · exact ⟨_, rfl, by omega, by omega⟩
      · exact h3 _ (by simp)
      · exact h3 _ (by simp)
      · exact h3 _ (by simp)
      · exact h3 _ (by simp)
      · exact h3 _ (by simp)
      · exact ⟨_, rfl, by omega, by omega⟩
/-- the words of seven numbers -/
theorem words_lc {ps : List D} (hl : ps.length ≤ 1000) (h : ∀ x ∈ ps, Days 9 x) (A B C E F : Option RV) : ∃ ys : List Str, lcL [6] (gN [] 6) bYes q_l_right_4 ps [A, B, C, E, F, none, none] [] = some (ys.map .str, [A, B, C, E, F, none, none]) ∧ ys.length = ps.length ∧ ∀ s ∈ ys, s.length ≤ 1 := by
  obtain ⟨acc, ρ', e, h1, h2, h3⟩ := lcL_st (vs := [6]) (g := gN [] 6) (t := bYes) (f := q_l_right_4) (I := fun ds acc ρ => (∀ x ∈ ds, Days 9 x) ∧ (∃ ys : List Str, acc = ys.map .str ∧ ys.length + ds.length = ps.length ∧ ∀ s ∈ ys, s.length ≤ 1) ∧ ρ = [A, B, C, E, F, none, none]) (fun e ds acc ρ hI => by
    obtain ⟨h1, ⟨ys, rfl, h2, h3⟩, rfl⟩ := hI
    obtain ⟨i, rfl, i0, i1⟩ := h1 e List.mem_cons_self
    obtain ⟨s, es, sl⟩ := str_small i0 i1
    rw [List.length_cons] at h2
    refine ⟨[A, B, C, E, F, none, some (.v (.int i))], [A, B, C, E, F, none, some (.v (.int i))], true, rfl, rfl, .v (.str s), [A, B, C, E, F, none, some (.v (.int i))], by simp [q_l_right_4, es], by rw [List.length_map]; omega, fun x hx => h1 x (List.mem_cons_of_mem _ hx), ⟨ys ++ [s], by simp, by simp; omega, fun q hq => ?_⟩, rfl⟩
    rcases List.mem_append.mp hq with hq | hq
    · exact h3 q hq
    · rw [List.mem_singleton.mp hq]; exact sl) ps [] [A, B, C, E, F, none, none] ⟨h, ⟨[], rfl, by simp, by simp⟩, rfl⟩
  obtain ⟨ys, rfl, h4, h5⟩ := h2
  subst h3
  exact ⟨ys, e, by simpa using h4, h5⟩
theorem ws_words {ys : List Str} (h : ∀ s ∈ ys, s.length ≤ 1) : Ws (2 * ys.length) ys := by
  unfold Ws
  induction ys with
  | nil => simp
  | cons s ys ih =>
    have i := ih fun q hq => h q (List.mem_cons_of_mem _ hq)
    have j := h s List.mem_cons_self
    simp only [List.map_cons, List.sum_cons, List.length_cons] at *
    omega
/-! ## letters drawn -/
def LtD (x : D) : Prop := ∃ (h : Int) (s : Str), x = .tuple [.int h, .str s] ∧ 0 ≤ h ∧ h ≤ 3 ∧ s.length ≤ 6
def dds : List D := [.str "create", .str "renew", .str "redeem", .str "delete", .str "lock", .str "unlock", .str "code", .str "take", .str "guess", .str "agree", .str "refuse"]
theorem deeds_run' : F_l_deeds.run [] = some (.v (.tuple dds), []) := by kernel_rfl
theorem letters_loop {d : D} (hd : Well d) (m : Option RV) {ho : Int} (h0 : 0 ≤ ho) (h1 : ho ≤ 3) (k : Nat) (hk : k ≤ 100) : ∃ ρ', forL (gN [0] 4) q_l_letters_1 (Z.upTo 0 k) [some (.o d), m, some (.v (.int ho)), some (.o (.list [])), none, none, none] = some (.nx, ρ') ∧
    ∃ d ps x4 x5, ρ' = [some (.o d), m, some (.v (.int ho)), some (.o (.list ps)), x4, x5, none] ∧ Well d ∧ (∀ x ∈ ps, LtD x) ∧ ps.length + ([] : List D).length ≤ k := by
  refine forL_st (I := fun ds ρ => ∃ d ps x4 x5, ρ = [some (.o d), m, some (.v (.int ho)), some (.o (.list ps)), x4, x5, none] ∧ Well d ∧ (∀ x ∈ ps, LtD x) ∧ ps.length + ds.length ≤ k) (fun e ds ρ hI => ?_) (Z.upTo 0 k) _ ⟨d, [], none, none, rfl, hd, (fun p h => by cases h), by rw [len_up, List.length_nil]; omega⟩
  obtain ⟨d, ps, x4, x5, rfl, w, hs, hl⟩ := hI
  rw [List.length_cons] at hl
  obtain ⟨n, d1, e1, n0, n1, w1⟩ := below_well (m := 4) w (by decide) (by decide)
  obtain ⟨y, d2, e2, hy, w2⟩ := one_well (ds := [.int ho, .int ho, .int n]) w1 (by simp) (by simp)
  obtain ⟨z, d3, e3, hz, w3⟩ := one_well (ds := dds) w2 (by decide) (by decide)
  have hy : ∃ g : Int, y = .int g ∧ 0 ≤ g ∧ g ≤ 3 := by
    simp only [List.mem_cons, List.not_mem_nil, or_false] at hy
    rcases hy with rfl | rfl | rfl
    · exact ⟨_, rfl, h0, h1⟩
    · exact ⟨_, rfl, h0, h1⟩
    · exact ⟨_, rfl, n0, by omega⟩
  obtain ⟨g, rfl, g0, g1⟩ := hy
  obtain ⟨f, rfl, hf⟩ := short_get (n := 6) (ds := dds) (by kernel_rfl) hz
  have dr := deeds_run'
  have lt : ps.length < 16777216 := by omega
  generalize PyData.tuple dds = DD at *
  refine ⟨_, by simp; rfl, [some (.o d3), m, some (.v (.int ho)), some (.o (.list (ps ++ [.tuple [.int g, .str f]]))), some (.v e), some (.v (.int g)), none], by simp [q_l_letters_1, e1, e2, e3, dr, lt], d3, ps ++ [.tuple [.int g, .str f]], _, _, rfl, w3, fun p hp => ?_, ?_⟩
  · rcases List.mem_append.mp hp with hp | hp
    · exact hs p hp
    · rw [List.mem_singleton.mp hp]; exact ⟨g, f, rfl, g0, g1, hf⟩
  · rw [List.length_append, List.length_singleton]; omega
theorem letters_run {d : D} (hd : Well d) {most : Int} (hm : most = 6 ∨ most = 4) : ∃ (ps : List D) (d' : D), F_l_letters.run [d, .int most] = some (.v (.tuple ps), [d']) ∧ ps.length ≤ 6 ∧ (∀ x ∈ ps, LtD x) ∧ Well d' := by
  obtain ⟨ho, d1, e1, q0, q1, w1⟩ := below_well (m := 4) hd (by decide) (by decide)
  obtain ⟨k, d2, e2, k0, k1, w2⟩ := below_well (m := most + 1) w1 (by omega) (by omega)
  have rk : rng1 [.int k] = some (Z.upTo 0 k.toNat) := x_rng1 (by omega) (by omega)
  obtain ⟨ρ', h1, d3, ps, x4, x5, rfl, w3, hs, hl⟩ := letters_loop w2 (some (.v (.int most))) q0 (by omega) k.toNat (by omega)
  rw [List.length_nil] at hl
  obtain ⟨b, d4, e4, _, _, w4⟩ := below_well (m := 4) w3 (by decide) (by decide)
  rw [u_l_letters, x_run _ _ _ _ rfl, b_l_letters]
  by_cases c : b = 0
  · subst c
    obtain ⟨o, d5, e5, o0, o1, w5⟩ := below_well (m := 3) w4 (by decide) (by decide)
    obtain ⟨y, d6, e6, hy, w6⟩ := one_well (ds := [.str "agree", .str "refuse"]) w5 (by simp) (by simp)
    obtain ⟨z, d7, e7, hz, w7⟩ := one_well (ds := [.str "renew", .str "delete", .str "lock", .str "code"]) w6 (by simp) (by simp)
    obtain ⟨f, rfl, hf⟩ := short_get (n := 6) (ds := [.str "agree", .str "refuse"]) (by kernel_rfl) hy
    obtain ⟨f2, rfl, hf2⟩ := short_get (n := 6) (ds := [.str "renew", .str "delete", .str "lock", .str "code"]) (by kernel_rfl) hz
    obtain ⟨p, hp⟩ : ∃ p : Int, p = (ho + 1 + o) % 4 := ⟨_, rfl⟩
    have hp' : 0 ≤ p ∧ p ≤ 3 := by omega
    have four : ∀ x ∈ ([.tuple [.int ho, .str "unlock"], .tuple [.int ho, .str "code"], .tuple [.int p, .str "take"], .tuple [.int ho, .str f]] : List D), LtD x := by
      intro x hx
      simp only [List.mem_cons, List.not_mem_nil, or_false] at hx
      rcases hx with rfl | rfl | rfl | rfl
      · exact ⟨_, _, rfl, q0, by omega, by decide⟩
      · exact ⟨_, _, rfl, q0, by omega, by decide⟩
      · exact ⟨_, _, rfl, hp'.1, hp'.2, by decide⟩
      · exact ⟨_, _, rfl, q0, by omega, hf⟩
    have mx2 : maxD [.int 0, .int 2] = some (.v (.int 2)) := rfl
    have mx0 : maxD [.int 0, .int 0] = some (.v (.int 0)) := rfl
    rcases hm with rfl | rfl
    · refine ⟨[.tuple [.int ho, .str "unlock"], .tuple [.int ho, .str "code"], .tuple [.int p, .str "take"], .tuple [.int ho, .str f], .tuple [.int p, .str f2]], d7, ?_, by simp, ?_, w7⟩
      · subst hp
        have e2' : F_l_below.run [d1, .int 7] = some (.v (.int k), [d2]) := e2
        simp [e1, e2', rk, h1, e4, e5, e6, e7, mx2]
      · intro x hx
        have : x ∈ ([.tuple [.int ho, .str "unlock"], .tuple [.int ho, .str "code"], .tuple [.int p, .str "take"], .tuple [.int ho, .str f]] : List D) ∨ x = .tuple [.int p, .str f2] := by
          simp only [List.mem_cons, List.not_mem_nil, or_false] at hx ⊢
          rcases hx with h | h | h | h | h <;> simp [h]
        rcases this with h | rfl
        · exact four x h
        · exact ⟨_, _, rfl, hp'.1, hp'.2, hf2⟩
    · refine ⟨[.tuple [.int ho, .str "unlock"], .tuple [.int ho, .str "code"], .tuple [.int p, .str "take"], .tuple [.int ho, .str f]], d7, ?_, by simp, four, w7⟩
      subst hp
      have e2' : F_l_below.run [d1, .int 5] = some (.v (.int k), [d2]) := e2
      simp [e1, e2', rk, h1, e4, e5, e6, e7, mx0]
  · rcases hm with rfl | rfl
    · refine ⟨ps.take 6, d4, ?_, by simp; omega, fun x hx => hs x (List.mem_of_mem_take hx), w4⟩
      have e2' : F_l_below.run [d1, .int 7] = some (.v (.int k), [d2]) := e2
      simp [e1, e2', rk, h1, e4, c]
    · refine ⟨ps.take 4, d4, ?_, by simp; omega, fun x hx => hs x (List.mem_of_mem_take hx), w4⟩
      have e2' : F_l_below.run [d1, .int 5] = some (.v (.int k), [d2]) := e2
      simp [e1, e2', rk, h1, e4, c]
end K11
namespace K11
open PySem PySem.Spec L2 Z
open PyProof.Rows hiding St

/-! ## a text of letters with something otherwise -/
theorem join_empty : ∀ l : List Str, chs (Str.join "" l) = (l.map chs).flatten
  | [] => rfl
  | [x] => by simp [Str.join]
  | x :: y :: r => by
    have ih := join_empty (y :: r)
    show chs (x ++ ("" : Str) ++ Str.join "" (y :: r)) = _
    rw [chs_app, chs_app, ih]
    have e : chs ("" : Str) = [] := rfl
    rw [e, List.append_nil]; rfl
theorem join0 {ps : List Str} (h : (ps.map (·.length)).sum ≤ 10000) : mjoinD (.str "") [.list (ps.map .str)] = some (.v (.str (Txt.join "" ps))) := by
  show mjoinG "" (ps.map .str) = _
  unfold mjoinG
  rw [mstrs, Option.bind_some, if_pos]
  have e : ("" : Str).length = 0 := rfl
  rw [e]
  exact decide_eq_true (by omega)
theorem join0_len (ps : List Str) : (Txt.join "" ps).length = (ps.map (·.length)).sum := by
  rw [← chs_len, txt_join, join_empty, List.length_flatten, List.map_map]
  congr 1
  first
    | done
    | exact List.map_congr_left fun x _ => chs_len x
theorem rows_lc {ps : List D} (hl : ps.length ≤ 12) (h : ∀ x ∈ ps, LtD x) (A B C E F G H : Option RV) : ∃ ys : List Str, lcL [7, 8] (gTn 2 (gCons (gN [] 7) (gCons (gN [] 8) gNil))) bYes q_l_rows_text_1 ps [A, B, C, E, F, G, H, none, none] [] = some (ys.map .str, [A, B, C, E, F, G, H, none, none]) ∧ (ys.map (·.length)).sum ≤ 9 * ps.length := by
  obtain ⟨acc, ρ', e, h1, h2, h3⟩ := lcL_st (vs := [7, 8]) (g := gTn 2 (gCons (gN [] 7) (gCons (gN [] 8) gNil))) (t := bYes) (f := q_l_rows_text_1) (I := fun ds acc ρ => (∀ x ∈ ds, LtD x) ∧ (∃ ys : List Str, acc = ys.map .str ∧ ys.length + ds.length = ps.length ∧ (ys.map (·.length)).sum + 9 * ds.length ≤ 9 * ps.length) ∧ ρ = [A, B, C, E, F, G, H, none, none]) (fun e ds acc ρ hI => by
    obtain ⟨h1, ⟨ys, rfl, h2, h3⟩, rfl⟩ := hI
    obtain ⟨i, s, rfl, i0, i1, sl⟩ := h1 e List.mem_cons_self
    obtain ⟨w, es, wl⟩ := str_small i0 (by omega)
    rw [List.length_cons] at h2 h3
    have sp1 : (" " : Str).length = 1 := rfl
    have nl1 : ("\n" : Str).length = 1 := rfl
    have a1 := add_str (a := w) (b := " ") (by omega)
    have l1 := app_len w " "
    generalize w ++ (" " : Str) = w1 at *
    have a2 := add_str (a := w1) (b := s) (by omega)
    have l2 := app_len w1 s
    generalize w1 ++ s = w2 at *
    have a3 := add_str (a := w2) (b := "\n") (by omega)
    have l3 := app_len w2 "\n"
    generalize w2 ++ ("\n" : Str) = w3 at *
    refine ⟨[A, B, C, E, F, G, H, some (.v (.int i)), some (.v (.str s))], [A, B, C, E, F, G, H, some (.v (.int i)), some (.v (.str s))], true, rfl, rfl, .v (.str w3), [A, B, C, E, F, G, H, some (.v (.int i)), some (.v (.str s))], by simp [q_l_rows_text_1, es, a1, a2, a3], by rw [List.length_map]; omega, fun x hx => h1 x (List.mem_cons_of_mem _ hx), ⟨ys ++ [w3], by simp, by simp; omega, ?_⟩, rfl⟩
    rw [List.map_append, List.sum_append]
    simp only [List.map_cons, List.map_nil, List.sum_cons, List.sum_nil]
    omega) ps [] [A, B, C, E, F, G, H, none, none] ⟨h, ⟨[], rfl, by simp, by simp⟩, rfl⟩
  obtain ⟨ys, rfl, h4, h5⟩ := h2
  subst h3
  exact ⟨ys, e, by simpa using h5⟩
abbrev oddR : List D := [.str "", .str "4 lock", .str "0 lock ", .str " 0 lock", .str "00 lock", .str "0 Lock", .str "0  lock", .str "lock 0", .str "0 lock 1", .str "0 lost", .str "0", .str "-1 lock"]
abbrev endR : List D := [.str "", .str "", .str "0 guess\n", .str "\n", .str "0 guess", .str " "]
theorem rows_text_run {d : D} (hd : Well d) : ∃ (t : Str) (d' : D), F_l_rows_text.run [d] = some (.v (.str t), [d']) ∧ t.length ≤ 2000 ∧ Well d' := by
  obtain ⟨p1, d1, h1, l1, o1, w1⟩ := letters_run hd (most := 6) (.inl rfl)
  obtain ⟨p2, d2, h2, l2, o2, w2⟩ := letters_run w1 (most := 4) (.inr rfl)
  obtain ⟨x, d3, h3, hx, w3⟩ := one_well (ds := [.tuple [], .tuple [], .tuple p2]) w2 (by simp) (by simp)
  have hx : ∃ p3 : List D, x = .tuple p3 ∧ p3.length ≤ 6 ∧ ∀ x ∈ p3, LtD x := by
    simp only [List.mem_cons, List.not_mem_nil, or_false] at hx
    rcases hx with rfl | rfl | rfl
    · exact ⟨[], rfl, by simp, by simp⟩
    · exact ⟨[], rfl, by simp, by simp⟩
    · exact ⟨p2, rfl, l2, o2⟩
  obtain ⟨p3, rfl, l3, o3⟩ := hx
  have ad : addD (.tuple p1) (.tuple p3) = some (.v (.tuple (p1 ++ p3))) := x_addTs (by omega)
  have lp : (p1 ++ p3).length ≤ 12 := by rw [List.length_append]; omega
  have op : ∀ x ∈ p1 ++ p3, LtD x := fun x hx => by
    rcases List.mem_append.mp hx with hx | hx
    · exact o1 x hx
    · exact o3 x hx
  generalize p1 ++ p3 = ps at *
  obtain ⟨ys, lc, ly⟩ := rows_lc lp op (some (.o d3)) (some (.v (.tuple ps))) none none none none none
  have jn := join0 (ps := ys) (by omega)
  have jl := join0_len ys
  generalize hY : ys.map PyData.str = Y at *
  have ht : (Txt.join "" ys).length ≤ 108 := by omega
  generalize Txt.join "" ys = t at *
  obtain ⟨r, d4, h4, r0, r1, w4⟩ := below_well (m := 6) w3 (by omega) (by omega)
  have sp : splitD (.str t) [.str "\n"] = some (.o (.list ((Txt.split t ⟨#[10]⟩).map .str))) := by
    show (if decide ((⟨#[10]⟩ : Str).length ≠ 0) && decide (t.length + 2 ≤ 16777216) then some (RV.o (.list ((Txt.split t ⟨#[10]⟩).map .str))) else none) = _
    rw [decide_eq_true (show t.length + 2 ≤ 16777216 by omega)]; rfl
  have ws := ws_split ht 10
  have sp0 := split_pos t ⟨#[10]⟩
  generalize Txt.split t ⟨#[10]⟩ = rs at *
  have lr := len_strs rs
  have rl : rs.length ≤ 109 := by unfold Ws at ws; omega
  obtain ⟨o, d5, h5, q0, q1, w5⟩ := below_well (m := (rs.length : Int)) w4 (by omega) (by omega)
  have ln := len_str (s := t) (by omega)
  obtain ⟨y1, e1, b1⟩ := sl_strs rs none (some o)
  obtain ⟨y2, e2, b2⟩ := sl_strs rs (some (o + 1)) none
  obtain ⟨y3, e3, b3⟩ := sl_strs rs (some o) none
  obtain ⟨p, e4, b4⟩ := ix_strs q0 q1
  have c1 := ws.sub b1
  have c2 := ws.sub b2
  have c3 := ws.sub b3
  have cp := ws.mem b4
  rw [u_l_rows_text, x_run _ _ _ _ rfl, b_l_rows_text]
  have cs : r = 0 ∨ r = 1 ∨ r = 2 ∨ 3 ≤ r := by omega
  rcases cs with rfl | rfl | rfl | r3
  · obtain ⟨v, d6, h6, v0, v1, w6⟩ := below_well (m := 3) w5 (by omega) (by omega)
    have s1 := sl_str (z := t) (by omega) none (some (max 0 ((t.length : Int) - 1 - v)))
    have m1 := cutS_len t none (some (max 0 ((t.length : Int) - 1 - v)))
    generalize cutS t none (some (max 0 ((t.length : Int) - 1 - v))) = z at *
    refine ⟨z, d6, ?_, by omega, w6⟩
    have mx := x_maxM 0 ((t.length : Int) - 1 - v)
    generalize rs.map PyData.str = RS at *
    generalize (rs.length : Int) = n' at *
    generalize (t.length : Int) = n at *
    generalize hm : max 0 (n - 1 - v) = m at *
    simp [h1, h2, h3, ad, lc, jn, h4, sp, lr, h5, ln, h6, mx, s1]
  · obtain ⟨t', d6, h6, lt', w6⟩ := bent_run w5 (t := p) (L := 108) (by omega) (by omega)
    have bo : Ws 335 [t'] := by have := ws_one t'; unfold Ws at *; omega
    have bw1 := c1.app bo
    have ad1 : addD (.list (y1.map .str)) (.list [.str t']) = some (.o (.list ((y1 ++ [t']).map .str))) := add_strs c1 bo (by omega)
    have ad2 := add_strs bw1 c2 (by omega)
    have bw := bw1.app c2
    have jn2 : mjoinD (.str "\n") [.list ((y1 ++ [t'] ++ y2).map .str)] = some (.v (.str (Txt.join ⟨#[10]⟩ (y1 ++ [t'] ++ y2)))) := join_run bw (by omega) 10
    have jl2 := ws_join bw 10
    generalize (y1 ++ [t'] ++ y2).map PyData.str = YY at *
    generalize Txt.join ⟨#[10]⟩ (y1 ++ [t'] ++ y2) = z at *
    refine ⟨z, d6, ?_, by omega, w6⟩
    generalize (y1 ++ [t']).map PyData.str = YP at *
    generalize y1.map PyData.str = Y1 at *
    generalize y2.map PyData.str = Y2 at *
    generalize rs.map PyData.str = RS at *
    generalize (rs.length : Int) = n' at *
    generalize (t.length : Int) = n at *
    simp [h1, h2, h3, ad, lc, jn, h4, sp, lr, h5, e1, e2, e4, h6, ad1, ad2, jn2]
  · obtain ⟨x, d6, h6, hx, w6⟩ := one_well (ds := oddR) w5 (by decide) (by decide)
    obtain ⟨p', rfl, hp'⟩ := short_get (n := 8) (ds := oddR) (by kernel_rfl) hx
    have bo : Ws 9 [p'] := by have := ws_one p'; unfold Ws at *; omega
    have bw1 := c1.app bo
    have ad1 : addD (.list (y1.map .str)) (.list [.str p']) = some (.o (.list ((y1 ++ [p']).map .str))) := add_strs c1 bo (by omega)
    have ad2 := add_strs bw1 c3 (by omega)
    have bw := bw1.app c3
    have jn2 : mjoinD (.str "\n") [.list ((y1 ++ [p'] ++ y3).map .str)] = some (.v (.str (Txt.join ⟨#[10]⟩ (y1 ++ [p'] ++ y3)))) := join_run bw (by omega) 10
    have jl2 := ws_join bw 10
    generalize (y1 ++ [p'] ++ y3).map PyData.str = YY at *
    generalize Txt.join ⟨#[10]⟩ (y1 ++ [p'] ++ y3) = z at *
    refine ⟨z, d6, ?_, by omega, w6⟩
    generalize (y1 ++ [p']).map PyData.str = YP at *
    generalize y1.map PyData.str = Y1 at *
    generalize y3.map PyData.str = Y3 at *
    generalize rs.map PyData.str = RS at *
    generalize (rs.length : Int) = n' at *
    generalize (t.length : Int) = n at *
    simp only [oddR] at h6
    simp [h1, h2, h3, ad, lc, jn, h4, sp, lr, h5, e1, e3, h6, ad1, ad2, jn2]
  · obtain ⟨x, d6, h6, hx, w6⟩ := one_well (ds := endR) w5 (by decide) (by decide)
    obtain ⟨p', rfl, hp'⟩ := short_get (n := 8) (ds := endR) (by kernel_rfl) hx
    have ad1 := add_str (a := t) (b := p') (by omega)
    have al := app_len t p'
    generalize t ++ p' = z at *
    refine ⟨z, d6, ?_, by omega, w6⟩
    generalize rs.map PyData.str = RS at *
    generalize (rs.length : Int) = n' at *
    simp only [endR] at h6
    have n0 : ¬ r = 0 := by omega
    have n1 : ¬ r = 1 := by omega
    have n2 : ¬ r = 2 := by omega
    simp [h1, h2, h3, ad, lc, jn, h4, sp, lr, h5, h6, ad1, n0, n1, n2]
end K11
namespace K11
open PySem PySem.Spec L2 Z
open PyProof.Rows hiding St

/-! ## the law -/
theorem up_get {n : Nat} {d : D} {lo : Int} (h : d ∈ Z.upTo lo n) : ∃ i : Int, d = .int i ∧ lo ≤ i ∧ i < lo + n := by
  unfold Z.upTo at h
  obtain ⟨i, hi, e⟩ := List.mem_map.mp h
  exact ⟨_, e.symm, by omega, by have := List.mem_range.mp hi; omega⟩
def bB : Nat → Nat
  | 0 => 202
  | 1 => 64
  | _ => 18
theorem bent_loop (A B : Option RV) {d : D} (hd : Well d) {t : Str} (ht : t.length ≤ 18) (o4 : Option RV) (n : Nat) (hn : n ≤ 2) : ∃ ρ', forL (gN [0] 4) q_l_right_3 (Z.upTo 0 n) [some (.o d), A, B, some (.v (.str t)), o4, none, none] = some (.nx, ρ') ∧ ([] : List D).length ≤ 2 ∧ ∃ d' t' t4, ρ' = [some (.o d'), A, B, some (.v (.str t')), t4, none, none] ∧ Well d' ∧ t'.length ≤ bB ([] : List D).length := by
  refine forL_st (I := fun ds ρ => ds.length ≤ 2 ∧ ∃ d' t' t4, ρ = [some (.o d'), A, B, some (.v (.str t')), t4, none, none] ∧ Well d' ∧ t'.length ≤ bB ds.length) (fun e ds ρ hI => ?_) _ _ ⟨by rw [len_up]; exact hn, d, t, o4, rfl, hd, by
    rw [len_up]
    match n, hn with
    | 0, _ => show t.length ≤ 202; omega
    | 1, _ => show t.length ≤ 64; omega
    | 2, _ => exact ht⟩
  obtain ⟨hl, d, t, t4, rfl, w, h⟩ := hI
  rw [List.length_cons] at hl h
  obtain ⟨t', d', e1, l1, w1⟩ := bent_run w h (by
    match ds.length, hl with
    | 0, _ => decide
    | 1, _ => decide)
  refine ⟨_, by simp; rfl, [some (.o d'), A, B, some (.v (.str t')), some (.v e), none, none], by simp [q_l_right_3, e1], by omega, d', t', _, rfl, w1, ?_⟩
  generalize ds.length = m at *
  match m, hl with
  | 0, _ => exact l1
  | 1, _ => exact l1
theorem tx_back (t : Str) : ∃ l : List Nat, t = tx l ∧ l.length = t.length := ⟨t.cps.toList, tx_of t, by rw [Array.length_toList]; rfl⟩
theorem step5 {d : D} (hd : Well d) (i : Int) (t2 t3 t4 : Option RV) : ∃ d' u2 u3 u4, q_l_right_5 [some (.o d), some (.v (.int i)), t2, t3, t4, none, none] = some (.nx, [some (.o d'), some (.v (.int i)), u2, u3, u4, none, none]) ∧ Well d' := by
  obtain ⟨ps, b, d1, h1, l1, o1, w1⟩ := plan_run hd
  obtain ⟨ys, lc, ly, oy⟩ := words_lc (ps := ps) (by omega) o1 (some (.o d1)) (some (.v (.int i))) (some (.v (.tuple (ps ++ [.bool b])))) t3 t4
  have tk : (ps ++ [PyData.bool b]).take 7 = ps := by rw [← l1]; exact List.take_left
  have sl7 : slD (.tuple (ps ++ [.bool b])) none (some 7) = some (.v (.tuple ps)) := by
    show some (RV.v (.tuple (cut _ none (some 7)))) = _
    rw [x_cutT7, tk]
  have ix7 : ixD (.tuple (ps ++ [.bool b])) (.int 7) = some (.v (.bool b)) := by
    show (atI (ps ++ [PyData.bool b]) ((7 : Nat) : Int)).map RV.v = _
    rw [atI_of, List.getElem?_append_right (by omega), l1]; rfl
  obtain ⟨y, hy, yl⟩ : ∃ y : Str, (if b then ("yes" : Str) else "no") = y ∧ y.length ≤ 3 := ⟨_, rfl, by cases b <;> decide⟩
  have w0 := ws_words oy
  have bo : Ws 4 [y] := by have := ws_one y; unfold Ws at *; omega
  have ad : addD (.list (ys.map .str)) (.list [.str y]) = some (.o (.list ((ys ++ [y]).map .str))) := add_strs w0 bo (by omega)
  have bw := w0.app bo
  have jn : mjoinD (.str " ") [.list ((ys ++ [y]).map .str)] = some (.v (.str (Txt.join ⟨#[32]⟩ (ys ++ [y])))) := join_run bw (by omega) 32
  have jl := ws_join bw 32
  generalize (ys ++ [y]).map PyData.str = YY at *
  generalize Txt.join ⟨#[32]⟩ (ys ++ [y]) = t at *
  obtain ⟨x, d2, h2, hx, w2⟩ := one_well (ds := [.int 0, .int 1, .int 1, .int 2]) w1 (by simp) (by simp)
  have hx : ∃ n : Nat, n ≤ 2 ∧ x = .int (n : Int) := by
    simp only [List.mem_cons, List.not_mem_nil, or_false] at hx
    rcases hx with rfl | rfl | rfl | rfl
    · exact ⟨0, by omega, rfl⟩
    · exact ⟨1, by omega, rfl⟩
    · exact ⟨1, by omega, rfl⟩
    · exact ⟨2, by omega, rfl⟩
  obtain ⟨n, hn, rfl⟩ := hx
  have rg : rng1 [.int (n : Int)] = some (Z.upTo 0 n) := x_rng1 (j := (n : Int)) (by omega) (by omega)
  obtain ⟨ρ', lp, -, d3, t', u4, rfl, w3, lt'⟩ := bent_loop (some (.v (.int i))) (some (.v (.tuple (ps ++ [.bool b])))) w2 (t := t) (by omega) t4 n hn
  obtain ⟨l, rfl, ll⟩ := tx_back t'
  have lt' : (tx l).length ≤ 202 := lt'
  obtain ⟨dd, e1, e2, e3⟩ := rules_same (l := l) (by omega)
  generalize tx l = X at *
  generalize Z.upTo 0 n = U at *
  generalize (n : Int) = n' at *
  generalize hpl : PyData.tuple (ps ++ [PyData.bool b]) = PL at *
  generalize ys.map PyData.str = Y at *
  refine ⟨d3, some (.v PL), some (.v (.str X)), u4, ?_, w3⟩
  cases b
  · have hy : y = "no" := hy.symm
    subst hy
    simp [q_l_right_5, h1, sl7, ix7, lc, ad, jn, h2, rg, lp, e1, e2, e3]
  · have hy : y = "yes" := hy.symm
    subst hy
    simp [q_l_right_5, h1, sl7, ix7, lc, ad, jn, h2, rg, lp, e1, e2, e3]
theorem loop5 {d : D} (hd : Well d) : ∃ ρ', forL (gN [0] 1) q_l_right_5 (Z.upTo 0 60) [some (.o d), none, none, none, none, none, none] = some (.nx, ρ') ∧ (∀ e ∈ ([] : List D), ∃ i : Int, e = .int i) ∧ ∃ d' u1 u2 u3 u4, ρ' = [some (.o d'), u1, u2, u3, u4, none, none] ∧ Well d' := by
  refine forL_st (I := fun ds ρ => (∀ e ∈ ds, ∃ i : Int, e = .int i) ∧ ∃ d' u1 u2 u3 u4, ρ = [some (.o d'), u1, u2, u3, u4, none, none] ∧ Well d') (fun e ds ρ hI => ?_) _ _ ⟨fun e h => ?_, d, none, none, none, none, rfl, hd⟩
  · obtain ⟨hm, d, u1, u2, u3, u4, rfl, w⟩ := hI
    obtain ⟨i, rfl⟩ := hm e List.mem_cons_self
    obtain ⟨d', v2, v3, v4, e1, w1⟩ := step5 w i u2 u3 u4
    exact ⟨[some (.o d), some (.v (.int i)), u2, u3, u4, none, none], rfl, _, e1, fun e h => hm e (List.mem_cons_of_mem _ h), d', _, v2, v3, v4, rfl, w1⟩
  · obtain ⟨i, rfl, _, _⟩ := up_get h
    exact ⟨_, rfl⟩
theorem loop2 {d : D} (hd : Well d) (a1 a2 a3 a4 : Option RV) : ∃ ρ', forL (gN [0] 1) q_l_right_2 (Z.upTo 0 40) [some (.o d), a1, a2, a3, a4, none, none] = some (.nx, ρ') ∧ (∀ e ∈ ([] : List D), ∃ i : Int, e = .int i) ∧ ∃ d' u1 u3, ρ' = [some (.o d'), u1, a2, u3, a4, none, none] ∧ Well d' := by
  refine forL_st (I := fun ds ρ => (∀ e ∈ ds, ∃ i : Int, e = .int i) ∧ ∃ d' u1 u3, ρ = [some (.o d'), u1, a2, u3, a4, none, none] ∧ Well d') (fun e ds ρ hI => ?_) _ _ ⟨fun e h => ?_, d, a1, a3, rfl, hd⟩
  · obtain ⟨hm, d, u1, u3, rfl, w⟩ := hI
    obtain ⟨i, rfl⟩ := hm e List.mem_cons_self
    obtain ⟨t, d', h1, lt, w1⟩ := rows_text_run w
    obtain ⟨l, rfl, ll⟩ := tx_back t
    obtain ⟨dd, e1, e2, e3⟩ := letters_same (l := l) (by omega)
    generalize tx l = X at *
    refine ⟨[some (.o d), some (.v (.int i)), a2, u3, a4, none, none], rfl, [some (.o d'), some (.v (.int i)), a2, some (.v (.str X)), a4, none, none], by simp [q_l_right_2, h1, e1, e2, e3], fun e h => hm e (List.mem_cons_of_mem _ h), d', _, _, rfl, w1⟩
  · obtain ⟨i, rfl, _, _⟩ := up_get h
    exact ⟨_, rfl⟩
theorem loop1 (d : D) (a1 a2 a3 a4 : Option RV) : ∀ (ds : List D) (o5 : Option RV), (∀ x ∈ ds, isiD ["str"] x = false ∧ isFv x = false) → ∃ t5, forL (gN [0] 5) q_l_right_1 ds [some (.o d), a1, a2, a3, a4, o5, none] = some (.nx, [some (.o d), a1, a2, a3, a4, t5, none])
  | [], o5, _ => ⟨o5, rfl⟩
  | x :: ds, o5, h => by
    obtain ⟨x1, x2⟩ := h x List.mem_cons_self
    obtain ⟨r1, r2⟩ := read0 x1 x2
    have t1 := told_bad (w := 0) (.inl rfl) false (fun _ => r1) (fun h => by cases h)
    have t2 := told_bad (w := 1) (.inr rfl) true (fun h => by cases h) (fun _ => r2)
    have sm : F_l_same.run [.tuple [.int 1, .none], .tuple [.int 1, .none]] = some (.v (.bool true), []) := same_run rfl
    have st : q_l_right_1 [some (.o d), a1, a2, a3, a4, some (.v x), none] = some (.nx, [some (.o d), a1, a2, a3, a4, some (.v x), none]) := by
      simp [q_l_right_1, t1, t2, sm]
    obtain ⟨t5, e⟩ := loop1 d a1 a2 a3 a4 ds (some (.v x)) fun y hy => h y (List.mem_cons_of_mem _ hy)
    refine ⟨t5, ?_⟩
    rw [forL_cons]
    show ((some [some (.o d), a1, a2, a3, a4, some (.v x), none]).bind _) = _
    rw [Option.bind_some, st, Option.bind_some]
    exact e
theorem right_run {d : D} (hd : Well d) : ∃ d', F_l_right.run [d] = some (.v (.bool true), [d']) := by
  obtain ⟨_, l1, -, d1, u1, u2, u3, u4, rfl, w1⟩ := loop5 hd
  obtain ⟨_, l2, -, d2, v1, v3, rfl, w2⟩ := loop2 w1 u1 u2 u3 u4
  obtain ⟨t5, l3⟩ := loop1 d2 v1 u2 v3 u4 [.none, .int 0, .bool true, .tuple [.str "3"], .list [.str "0 lock"], .dict [], .tuple [], .int 7] none (by
    intro x hx
    simp only [List.mem_cons, List.not_mem_nil, or_false] at hx
    rcases hx with rfl | rfl | rfl | rfl | rfl | rfl | rfl | rfl <;> exact ⟨rfl, rfl⟩)
  have t0 : F_l_told.run [.int 0, .str "", .bool true] = some (.v (.tuple [.int 1, .int 0]), []) := told_bad (.inl rfl) true (fun _ => read_bad (l := []) (by simp) (j := 0) (by decide)) (fun h => by cases h)
  have t1 : F_l_told.run [.int 1, .str "\n", .bool true] = some (.v (.tuple [.int 1, .int 0]), []) := by kernel_rfl
  have sm : F_l_same.run [.tuple [.int 1, .int 0], .tuple [.int 1, .int 0]] = some (.v (.bool true), []) := same_run rfl
  have r60 : rng1 [.int 60] = some (Z.upTo 0 60) := rfl
  have r40 : rng1 [.int 40] = some (Z.upTo 0 40) := rfl
  refine ⟨d2, ?_⟩
  rw [u_l_right, x_run _ _ _ _ rfl, b_l_right]
  generalize Z.upTo 0 60 = U60 at *
  generalize Z.upTo 0 40 = U40 at *
  have ed : ∀ ρ, eDic [] ρ = some (.o (.dict []), ρ) := fun _ => rfl
  simp [r60, r40, l1, l2, l3, t0, t1, sm, ed]
theorem pool_run (ns : List Int) (lap : Int) (hl : ns.length ≤ 63) (l0 : 0 ≤ lap) (l1 : lap < 4) : ∃ d, F_l_pool.run [.list (ns.map .int), .int lap] = some (.o d, []) ∧ Well d := by
  have own : ∃ own : Int, (lap < ns.length ∧ atI (ns.map PyData.int) lap = some (.int own)) ∨ (¬ lap < ns.length ∧ own = 5769 * lap + 427) := by
    by_cases c : lap < ns.length
    · have e : atI (ns.map PyData.int) lap = some (.int ns[lap.toNat]) := by
        have := atI_of (xs := ns.map .int) (j := lap.toNat)
        rw [Int.toNat_of_nonneg l0] at this
        rw [this, List.getElem?_map, List.getElem?_eq_getElem (by omega)]; rfl
      exact ⟨_, .inl ⟨c, e⟩⟩
    · exact ⟨_, .inr ⟨c, rfl⟩⟩
  obtain ⟨own, ho⟩ := own
  have loop : ∀ s : Int, ∃ ρ', forL (gN [] 4) q_l_pool_1 ((ns.map PyData.int).take 12) [some (.v (.list (ns.map .int))), some (.v (.int lap)), some (.v (.int own)), some (.v (.int s)), none] = some (.nx, ρ') ∧
      (∀ e ∈ ([] : List D), ∃ i : Int, e = .int i) ∧ ∃ (s : Int) (x : Option RV), ρ' = [some (.v (.list (ns.map .int))), some (.v (.int lap)), some (.v (.int own)), some (.v (.int s)), x] := by
    intro s
    refine forL_st (I := fun ds ρ => (∀ e ∈ ds, ∃ i : Int, e = .int i) ∧ ∃ (s : Int) (x : Option RV), ρ = [some (.v (.list (ns.map .int))), some (.v (.int lap)), some (.v (.int own)), some (.v (.int s)), x]) (fun e ds ρ hI => ?_) _ _ ⟨fun e h => ?_, s, none, rfl⟩
    · obtain ⟨hm, s, x, rfl⟩ := hI
      obtain ⟨i, rfl⟩ := hm e List.mem_cons_self
      exact ⟨_, by simp; rfl, [some (.v (.list (ns.map .int))), some (.v (.int lap)), some (.v (.int own)), some (.v (.int ((s * 38399 + i % 2147483587 + 27) % 2147483647))), some (.v (.int i))], by simp [q_l_pool_1], fun e h => hm e (List.mem_cons_of_mem _ h), _, _, rfl⟩
    · obtain ⟨i, _, e⟩ := List.mem_map.mp (List.mem_of_mem_take h)
      exact ⟨i, e.symm⟩
  obtain ⟨ρ', h1, _, s, x, rfl⟩ := loop (34019 + 8175 * lap)
  refine ⟨.list [.int (if own < 0 ∨ 1000000000000000 ≤ own then (if own < 0 then -own else own) else 0), .int ((s * 63 + own % 2147483587 * 28991 + 11) % 2147483647), .int 0], ?_, _, _, _, rfl, by split <;> (try split) <;> omega⟩
  rw [u_l_pool, x_run _ _ _ _ rfl, b_l_pool]
  rcases ho with ⟨c, e⟩ | ⟨c, rfl⟩
  · by_cases c1 : own < 0
    · simp [c, e, h1, c1]
    · by_cases c2 : 1000000000000000 ≤ own <;> simp [c, e, h1, c1, c2]
  · have c1 : ¬ (5769 * lap + 427 < 0) := by omega
    have c2 : ¬ (1000000000000000 ≤ 5769 * lap + 427) := by omega
    simp [c, h1, c1, c2]
theorem lc_run (ns : List Int) (hl : ns.length ≤ 63) (k : Nat) (hk4 : k ≤ 2) : lcL [1] (gN [] 1) bYes q_law_1 (Z.upTo 0 k) [some (.v (.list (ns.map .int))), none] [] = some ((Z.upTo 0 k).map (fun _ => .bool true), [some (.v (.list (ns.map .int))), none]) := by
  have len : (Z.upTo 0 k).length = k := by unfold Z.upTo; rw [List.length_map, List.length_range]
  refine lcL_map (fun _ => .bool true) (by rw [len]; omega) fun d hd => ?_
  obtain ⟨i, rfl, i0, i1⟩ := up_get hd
  obtain ⟨w, h1, hw⟩ := pool_run ns i hl i0 (by omega)
  obtain ⟨d', h2⟩ := right_run hw
  exact ⟨[some (.v (.list (ns.map .int))), some (.v (.int i))], _, .v (.bool true), [some (.v (.list (ns.map .int))), some (.v (.int i))], by simp, rfl, by simp [q_law_1, h1, h2], rfl, by simp⟩
theorem rng_k (k : Nat) (h : k ≤ 2) : rng1 [.int (k : Int)] = some (Z.upTo 0 k) := x_rng1 (j := (k : Int)) (by omega) (by omega)
theorem all_k (k : Nat) : allD [.list ((Z.upTo 0 k).map fun _ => .bool true)] = some (.v (.bool true)) := by
  have e2 := x_all (boolsOf_mp (fun _ => true) (Z.upTo 0 k))
  have e3 : ((Z.upTo 0 k).map fun _ => true).all id = true := by simp
  rw [e3] at e2
  exact e2
theorem arg_k (ns : List Int) : ∃ k : Nat, k ≤ 2 ∧ eB maxD (osCons (oTv (eC (.int 1))) (osCons (oTv (eB minD (osCons (oTv (eB lenD (osCons (oSl 0) osNil))) (osCons (oTv (eC (.int 2))) osNil)))) osNil)) [some (.v (.list (ns.map .int))), none] = some (.v (.int k), [some (.v (.list (ns.map .int))), none]) := by
  by_cases c : (2 : Int) < (ns.length : Int)
  · exact ⟨2, by omega, by simp [c]⟩
  · by_cases c2 : (1 : Int) < (ns.length : Int)
    · exact ⟨ns.length, by omega, by simp [c, c2]⟩
    · exact ⟨1, by omega, by simp [c, c2]⟩
theorem law_true (ns : List Int) (hl : ns.length ≤ 63) : F_law.run [.list (ns.map .int)] = some (.v (.bool true), []) := by
  obtain ⟨k, hk4, ha⟩ := arg_k ns
  have lc := lc_run ns hl k hk4
  rw [u_law, x_run _ _ _ _ rfl, b_law]
  generalize hq : eB maxD (osCons (oTv (eC (.int 1))) (osCons (oTv (eB minD (osCons (oTv (eB lenD (osCons (oSl 0) osNil))) (osCons (oTv (eC (.int 2))) osNil)))) osNil)) = q at ha
  simp [ha, rng_k k hk4, lc, all_k]
end K11
namespace K11
open PySem PySem.Spec L2 Z
open PyProof.Rows hiding St
theorem facts {P : Program} {w : World} {K : PySem.W.Frag} {h : Heap} {mg : Str → Option Value} {f : Addr} (X : K.In h) (G : h.Ns mainGlobals mg) (hfa : mg ("law" : Str) = some (.ref f)) (c : He.SaysD fcs dl K) (cc : exC cst K = true) (ce : (els.all (ClsD.ok K fileN) && pairsB K els bs_) = true) (cw : els.map (iniW K) = els.map ClsD.val) (hP : (P.main.file : Str) = fileN) (hT : (P.main.scope.names.lookup ("super" : Str)).isSome = false) :
    ∃ fd : FuncData, (∀ (s : Shared) (v : Value), BindsTo s fd ⟨[v], []⟩ [("script", v)]) ∧ ∀ base : Heap, K.In base → base.Ns mainGlobals mg → FnOk P w K mg base CX0 28 f fd ["script"] (spF K F_law) := by
  have hb : ∀ x ∈ bltNames, mg x = none := by
    intro x hx
    simp only [bltNames, List.mem_cons, List.not_mem_nil, or_false] at hx
    rcases hx with rfl | rfl | rfl | rfl | rfl | rfl | rfl | rfl | rfl | rfl | rfl | rfl | rfl | rfl | rfl | rfl | rfl | rfl | rfl
    · exact He.free_ok X G (c.fact 24 (f := .free "len") rfl)
    · exact He.free_ok X G (c.fact 25 (f := .free "abs") rfl)
    · exact He.free_ok X G (c.fact 26 (f := .free "max") rfl)
    · exact He.free_ok X G (c.fact 27 (f := .free "min") rfl)
    · exact He.free_ok X G (c.fact 28 (f := .free "sum") rfl)
    · exact He.free_ok X G (c.fact 29 (f := .free "all") rfl)
    · exact He.free_ok X G (c.fact 30 (f := .free "any") rfl)
    · exact He.free_ok X G (c.fact 31 (f := .free "divmod") rfl)
    · exact He.free_ok X G (c.fact 32 (f := .free "int") rfl)
    · exact He.free_ok X G (c.fact 33 (f := .free "tuple") rfl)
    · exact He.free_ok X G (c.fact 34 (f := .free "list") rfl)
    · exact He.free_ok X G (c.fact 35 (f := .free "isinstance") rfl)
    · exact He.free_ok X G (c.fact 36 (f := .free "range") rfl)
    · exact He.free_ok X G (c.fact 37 (f := .free "enumerate") rfl)
    · exact He.free_ok X G (c.fact 38 (f := .free "zip") rfl)
    · exact He.free_ok X G (c.fact 39 (f := .free "bool") rfl)
    · exact He.free_ok X G (c.fact 40 (f := .free "str") rfl)
    · exact He.free_ok X G (c.fact 41 (f := .free "dict") rfl)
    · exact He.free_ok X G (c.fact 42 (f := .free "sorted") rfl)
  obtain ⟨fd0, D0⟩ := c.def_ 0 (d := d_figures) rfl
  have E0 : Fun K "figures" "figures" s_figures (He.fAd K ("figures", none)) fd0 := fun_of (kws := []) D0
  have m0 := He.glo_ok X G (c.fact 0 (f := .glo "figures") rfl)
  have B0 := D0.bindsN (ps := ["low", "high"]) fun _ _ _ _ _ _ us hl => match us, hl with | [_, _], _ => rfl
  have w0 : ∀ n ks pm, kw_figures n ks = some pm → KwOk K fd0 ["low", "high"] ks n pm := by
    intro n ks pm hq
    cases hq
  obtain ⟨fd1, D1⟩ := c.def_ 1 (d := d_rules_follow) rfl
  have E1 : Fun K "rules_follow" "rules_follow" s_rules_follow (He.fAd K ("rules_follow", none)) fd1 := fun_of (kws := []) D1
  have m1 := He.glo_ok X G (c.fact 1 (f := .glo "rules_follow") rfl)
  have B1 := D1.bindsN (ps := ["words"]) fun _ _ _ _ _ _ us hl => match us, hl with | [_], _ => rfl
  have w1 : ∀ n ks pm, kw_rules_follow n ks = some pm → KwOk K fd1 ["words"] ks n pm := by
    intro n ks pm hq
    cases hq
  obtain ⟨fd2, D2⟩ := c.def_ 2 (d := d_l_pool) rfl
  have E2 : Fun K "_law_pool" "_law_pool" s_l_pool (He.fAd K ("_law_pool", none)) fd2 := fun_of (kws := []) D2
  have m2 := He.glo_ok X G (c.fact 2 (f := .glo "_law_pool") rfl)
  have B2 := D2.bindsN (ps := ["script", "lap"]) fun _ _ _ _ _ _ us hl => match us, hl with | [_, _], _ => rfl
  have w2 : ∀ n ks pm, kw_l_pool n ks = some pm → KwOk K fd2 ["script", "lap"] ks n pm := by
    intro n ks pm hq
    cases hq
  obtain ⟨fd3, D3⟩ := c.def_ 3 (d := d_l_below) rfl
  have E3 : Fun K "_law_below" "_law_below" s_l_below (He.fAd K ("_law_below", none)) fd3 := fun_of (kws := []) D3
  have m3 := He.glo_ok X G (c.fact 3 (f := .glo "_law_below") rfl)
  have B3 := D3.bindsN (ps := ["pool", "many"]) fun _ _ _ _ _ _ us hl => match us, hl with | [_, _], _ => rfl
  have w3 : ∀ n ks pm, kw_l_below n ks = some pm → KwOk K fd3 ["pool", "many"] ks n pm := by
    intro n ks pm hq
    cases hq
  obtain ⟨fd4, D4⟩ := c.def_ 4 (d := d_l_one) rfl
  have E4 : Fun K "_law_one" "_law_one" s_l_one (He.fAd K ("_law_one", none)) fd4 := fun_of (kws := []) D4
  have m4 := He.glo_ok X G (c.fact 4 (f := .glo "_law_one") rfl)
  have B4 := D4.bindsN (ps := ["pool", "some"]) fun _ _ _ _ _ _ us hl => match us, hl with | [_, _], _ => rfl
  have w4 : ∀ n ks pm, kw_l_one n ks = some pm → KwOk K fd4 ["pool", "some"] ks n pm := by
    intro n ks pm hq
    cases hq
  obtain ⟨fd5, D5⟩ := c.def_ 5 (d := d_l_great_plan) rfl
  have E5 : Fun K "_law_great_plan" "_law_great_plan" s_l_great_plan (He.fAd K ("_law_great_plan", none)) fd5 := fun_of (kws := []) D5
  have m5 := He.glo_ok X G (c.fact 5 (f := .glo "_law_great_plan") rfl)
  have B5 := D5.bindsN (ps := ["pool"]) fun _ _ _ _ _ _ us hl => match us, hl with | [_], _ => rfl
  have w5 : ∀ n ks pm, kw_l_great_plan n ks = some pm → KwOk K fd5 ["pool"] ks n pm := by
    intro n ks pm hq
    cases hq
  obtain ⟨fd6, D6⟩ := c.def_ 6 (d := d_l_bent_text) rfl
  have E6 : Fun K "_law_bent_text" "_law_bent_text" s_l_bent_text (He.fAd K ("_law_bent_text", none)) fd6 := fun_of (kws := []) D6
  have m6 := He.glo_ok X G (c.fact 6 (f := .glo "_law_bent_text") rfl)
  have B6 := D6.bindsN (ps := ["pool", "text_there"]) fun _ _ _ _ _ _ us hl => match us, hl with | [_, _], _ => rfl
  have w6 : ∀ n ks pm, kw_l_bent_text n ks = some pm → KwOk K fd6 ["pool", "text_there"] ks n pm := by
    intro n ks pm hq
    cases hq
  obtain ⟨fd7, D7⟩ := c.def_ 7 (d := d_l_same) rfl
  have E7 : Fun K "_law_same" "_law_same" s_l_same (He.fAd K ("_law_same", none)) fd7 := fun_of (kws := []) D7
  have m7 := He.glo_ok X G (c.fact 7 (f := .glo "_law_same") rfl)
  have B7 := D7.bindsN (ps := ["told", "due"]) fun _ _ _ _ _ _ us hl => match us, hl with | [_, _], _ => rfl
  have w7 : ∀ n ks pm, kw_l_same n ks = some pm → KwOk K fd7 ["told", "due"] ks n pm := by
    intro n ks pm hq
    cases hq
  obtain ⟨fd8, D8⟩ := c.def_ 8 (d := d_begins_some) rfl
  have E8 : Fun K "begins_some" "begins_some" s_begins_some (He.fAd K ("begins_some", none)) fd8 := fun_of (kws := []) D8
  have m8 := He.glo_ok X G (c.fact 8 (f := .glo "begins_some") rfl)
  have B8 := D8.bindsN (ps := ["word", "words"]) fun _ _ _ _ _ _ us hl => match us, hl with | [_, _], _ => rfl
  have w8 : ∀ n ks pm, kw_begins_some n ks = some pm → KwOk K fd8 ["word", "words"] ks n pm := by
    intro n ks pm hq
    cases hq
  obtain ⟨fd9, D9⟩ := c.def_ 9 (d := d_words_of) rfl
  have E9 : Fun K "words_of" "words_of" s_words_of (He.fAd K ("words_of", none)) fd9 := fun_of (kws := []) D9
  have m9 := He.glo_ok X G (c.fact 9 (f := .glo "words_of") rfl)
  have B9 := D9.bindsN (ps := ["text", "follow"]) fun _ _ _ _ _ _ us hl => match us, hl with | [_, _], _ => rfl
  have w9 : ∀ n ks pm, kw_words_of n ks = some pm → KwOk K fd9 ["text", "follow"] ks n pm := by
    intro n ks pm hq
    cases hq
  obtain ⟨fd10, D10⟩ := c.def_ 10 (d := d_rules_by) rfl
  have E10 : Fun K "rules_by" "rules_by" s_rules_by (He.fAd K ("rules_by", none)) fd10 := fun_of (kws := []) D10
  have m10 := He.glo_ok X G (c.fact 10 (f := .glo "rules_by") rfl)
  have B10 := D10.bindsN (ps := ["words"]) fun _ _ _ _ _ _ us hl => match us, hl with | [_], _ => rfl
  have w10 : ∀ n ks pm, kw_rules_by n ks = some pm → KwOk K fd10 ["words"] ks n pm := by
    intro n ks pm hq
    cases hq
  obtain ⟨fd11, D11⟩ := c.def_ 11 (d := d_check_text) rfl
  have E11 : Fun K "check_text" "check_text" s_check_text (He.fAd K ("check_text", none)) fd11 := fun_of (kws := []) D11
  have m11 := He.glo_ok X G (c.fact 11 (f := .glo "check_text") rfl)
  have B11 := D11.bindsN (ps := ["value"]) fun _ _ _ _ _ _ us hl => match us, hl with | [_], _ => rfl
  have w11 : ∀ n ks pm, kw_check_text n ks = some pm → KwOk K fd11 ["value"] ks n pm := by
    intro n ks pm hq
    cases hq
  obtain ⟨fd12, D12⟩ := c.def_ 12 (d := d_read_rules) rfl
  have E12 : Fun K "read_rules" "read_rules" s_read_rules (He.fAd K ("read_rules", none)) fd12 := fun_of (kws := []) D12
  have m12 := He.glo_ok X G (c.fact 12 (f := .glo "read_rules") rfl)
  have B12 := D12.bindsN (ps := ["text"]) fun _ _ _ _ _ _ us hl => match us, hl with | [_], _ => rfl
  have w12 : ∀ n ks pm, kw_read_rules n ks = some pm → KwOk K fd12 ["text"] ks n pm := by
    intro n ks pm hq
    unfold kw_read_rules at hq
    split at hq
    · rename_i hc
      obtain ⟨rfl, rfl⟩ := hc
      cases hq
      exact KwOk.of E12 fun _ _ _ _ _ _ us ws xs h1 h2 h3 => match us, ws, h1, h2, h3 with | [], [_], _, _, h3 => by cases h3; rfl
    · cases hq
  obtain ⟨fd13, D13⟩ := c.def_ 13 (d := d_letter_by) rfl
  have E13 : Fun K "letter_by" "letter_by" s_letter_by (He.fAd K ("letter_by", none)) fd13 := fun_of (kws := []) D13
  have m13 := He.glo_ok X G (c.fact 13 (f := .glo "letter_by") rfl)
  have B13 := D13.bindsN (ps := ["row"]) fun _ _ _ _ _ _ us hl => match us, hl with | [_], _ => rfl
  have w13 : ∀ n ks pm, kw_letter_by n ks = some pm → KwOk K fd13 ["row"] ks n pm := by
    intro n ks pm hq
    cases hq
  obtain ⟨fd14, D14⟩ := c.def_ 14 (d := d_letters_by) rfl
  have E14 : Fun K "letters_by" "letters_by" s_letters_by (He.fAd K ("letters_by", none)) fd14 := fun_of (kws := []) D14
  have m14 := He.glo_ok X G (c.fact 14 (f := .glo "letters_by") rfl)
  have B14 := D14.bindsN (ps := ["text"]) fun _ _ _ _ _ _ us hl => match us, hl with | [_], _ => rfl
  have w14 : ∀ n ks pm, kw_letters_by n ks = some pm → KwOk K fd14 ["text"] ks n pm := by
    intro n ks pm hq
    cases hq
  obtain ⟨fd15, D15⟩ := c.def_ 15 (d := d_read_letters) rfl
  have E15 : Fun K "read_letters" "read_letters" s_read_letters (He.fAd K ("read_letters", none)) fd15 := fun_of (kws := []) D15
  have m15 := He.glo_ok X G (c.fact 15 (f := .glo "read_letters") rfl)
  have B15 := D15.bindsN (ps := ["text"]) fun _ _ _ _ _ _ us hl => match us, hl with | [_], _ => rfl
  have w15 : ∀ n ks pm, kw_read_letters n ks = some pm → KwOk K fd15 ["text"] ks n pm := by
    intro n ks pm hq
    unfold kw_read_letters at hq
    split at hq
    · rename_i hc
      obtain ⟨rfl, rfl⟩ := hc
      cases hq
      exact KwOk.of E15 fun _ _ _ _ _ _ us ws xs h1 h2 h3 => match us, ws, h1, h2, h3 with | [], [_], _, _, h3 => by cases h3; rfl
    · cases hq
  obtain ⟨fd16, D16⟩ := c.def_ 16 (d := d_l_rules_due) rfl
  have E16 : Fun K "_law_rules_due" "_law_rules_due" s_l_rules_due (He.fAd K ("_law_rules_due", none)) fd16 := fun_of (kws := []) D16
  have m16 := He.glo_ok X G (c.fact 16 (f := .glo "_law_rules_due") rfl)
  have B16 := D16.bindsN (ps := ["thing"]) fun _ _ _ _ _ _ us hl => match us, hl with | [_], _ => rfl
  have w16 : ∀ n ks pm, kw_l_rules_due n ks = some pm → KwOk K fd16 ["thing"] ks n pm := by
    intro n ks pm hq
    cases hq
  obtain ⟨fd17, D17⟩ := c.def_ 17 (d := d_l_deeds) rfl
  have E17 : Fun K "_law_deeds" "_law_deeds" s_l_deeds (He.fAd K ("_law_deeds", none)) fd17 := fun_of (kws := []) D17
  have m17 := He.glo_ok X G (c.fact 17 (f := .glo "_law_deeds") rfl)
  have B17 := D17.bindsN (ps := []) fun _ _ _ _ _ _ us hl => match us, hl with | [], _ => rfl
  have w17 : ∀ n ks pm, kw_l_deeds n ks = some pm → KwOk K fd17 [] ks n pm := by
    intro n ks pm hq
    cases hq
  obtain ⟨fd18, D18⟩ := c.def_ 18 (d := d_l_letters_due) rfl
  have E18 : Fun K "_law_letters_due" "_law_letters_due" s_l_letters_due (He.fAd K ("_law_letters_due", none)) fd18 := fun_of (kws := []) D18
  have m18 := He.glo_ok X G (c.fact 18 (f := .glo "_law_letters_due") rfl)
  have B18 := D18.bindsN (ps := ["thing"]) fun _ _ _ _ _ _ us hl => match us, hl with | [_], _ => rfl
  have w18 : ∀ n ks pm, kw_l_letters_due n ks = some pm → KwOk K fd18 ["thing"] ks n pm := by
    intro n ks pm hq
    cases hq
  obtain ⟨fd19, D19⟩ := c.def_ 19 (d := d_l_letters) rfl
  have E19 : Fun K "_law_letters" "_law_letters" s_l_letters (He.fAd K ("_law_letters", none)) fd19 := fun_of (kws := []) D19
  have m19 := He.glo_ok X G (c.fact 19 (f := .glo "_law_letters") rfl)
  have B19 := D19.bindsN (ps := ["pool", "most"]) fun _ _ _ _ _ _ us hl => match us, hl with | [_, _], _ => rfl
  have w19 : ∀ n ks pm, kw_l_letters n ks = some pm → KwOk K fd19 ["pool", "most"] ks n pm := by
    intro n ks pm hq
    cases hq
  obtain ⟨fd20, D20⟩ := c.def_ 20 (d := d_l_rows_text) rfl
  have E20 : Fun K "_law_rows_text" "_law_rows_text" s_l_rows_text (He.fAd K ("_law_rows_text", none)) fd20 := fun_of (kws := []) D20
  have m20 := He.glo_ok X G (c.fact 20 (f := .glo "_law_rows_text") rfl)
  have B20 := D20.bindsN (ps := ["pool"]) fun _ _ _ _ _ _ us hl => match us, hl with | [_], _ => rfl
  have w20 : ∀ n ks pm, kw_l_rows_text n ks = some pm → KwOk K fd20 ["pool"] ks n pm := by
    intro n ks pm hq
    cases hq
  obtain ⟨fd21, D21⟩ := c.def_ 21 (d := d_l_told) rfl
  have E21 : Fun K "_law_told" "_law_told" s_l_told (He.fAd K ("_law_told", none)) fd21 := fun_of (kws := []) D21
  have m21 := He.glo_ok X G (c.fact 21 (f := .glo "_law_told") rfl)
  have B21 := D21.bindsN (ps := ["way", "thing", "is_named"]) fun _ _ _ _ _ _ us hl => match us, hl with | [_, _, _], _ => rfl
  have w21 : ∀ n ks pm, kw_l_told n ks = some pm → KwOk K fd21 ["way", "thing", "is_named"] ks n pm := by
    intro n ks pm hq
    cases hq
  obtain ⟨fd22, D22⟩ := c.def_ 22 (d := d_l_right) rfl
  have E22 : Fun K "_law_right" "_law_right" s_l_right (He.fAd K ("_law_right", none)) fd22 := fun_of (kws := []) D22
  have m22 := He.glo_ok X G (c.fact 22 (f := .glo "_law_right") rfl)
  have B22 := D22.bindsN (ps := ["pool"]) fun _ _ _ _ _ _ us hl => match us, hl with | [_], _ => rfl
  have w22 : ∀ n ks pm, kw_l_right n ks = some pm → KwOk K fd22 ["pool"] ks n pm := by
    intro n ks pm hq
    cases hq
  obtain ⟨fd23, D23⟩ := c.def_ 23 (d := d_law) rfl
  have E23 : Fun K "law" "law" s_law (He.fAd K ("law", none)) fd23 := fun_of (kws := []) D23
  have m23 := He.glo_ok X G (c.fact 23 (f := .glo "law") rfl)
  have B23 := D23.bindsN (ps := ["script"]) fun _ _ _ _ _ _ us hl => match us, hl with | [_], _ => rfl
  have w23 : ∀ n ks pm, kw_law n ks = some pm → KwOk K fd23 ["script"] ks n pm := by
    intro n ks pm hq
    cases hq
  have e := hfa.symm.trans m23
  cases e
  refine ⟨fd23, fun s v => D23.bindsA (ps := ["script"]) (fun _ _ _ _ _ _ us hl => match us, hl with | [_], _ => rfl) s [v] rfl, fun base _ _ => ?_⟩
  have t0 : TabOk 0 T0 P w K mg base := by
    exact ((((((((TabOk.nil hb (fun x a h => PySem.W.mg_of X G h)).putC X G (exC_at cc 0 (q := ("MOST_DAYS", (.int 4))))).putC X G (exC_at cc 1 (q := ("MOST_TERM", (.int 9))))).putC X G (exC_at cc 2 (q := ("NO", (.str "no"))))).putC X G (exC_at cc 3 (q := ("YES", (.str "yes"))))).putC X G (exC_at cc 4 (q := ("DEEDS", C_DEEDS)))).putC X G (exC_at cc 5 (q := ("MOST_HOUSE", (.int 3))))).putC X G (exC_at cc 6 (q := ("MOST_LETTERS", (.int 6))))).putF (He.eqO_ok (c.fact 1 (f := .glo "rules_follow") rfl))
  have pk0 := pairs_of X G ce
  rw [Bool.and_eq_true] at ce
  have ie0 : InitT k_InvalidText.st k_InvalidText.fld k_InvalidText.gv := ⟨⟨_, _, _, _, _, _, _, _, _, rfl, by decide⟩, rfl, rfl, rfl, by decide +kernel, by decide +kernel, by decide +kernel, by decide +kernel, by decide +kernel, by decide +kernel, ⟨_, rfl, rfl⟩, by decide, by decide, by decide⟩
  obtain ⟨fe0, ke0⟩ := cls_of (P := P) (w := w) (base := base) X G ie0 (all_at ce.1 0 (q := k_InvalidText)) (map_at cw 0 (q := k_InvalidText)) hP hT (fun _ _ _ _ _ _ _ us hl => match us, hl with | [_, _], _ => rfl)
  have o0 : FnOk P w K mg base CX0 1 _ fd0 ["low", "high"] (spF K F_figures) := def_okF t0 E0 sc_figures rfl (by decide) c_figures
  have t1 : TabOk 1 T1 P w K mg base := (t0.mono (by decide)).add m0 E0.kp B0 o0 w0
  have o1 : FnOk P w K mg base CX0 2 _ fd1 ["words"] (spF K F_rules_follow) := def_okF t1 E1 sc_rules_follow rfl (by decide) c_rules_follow
  have t2 : TabOk 2 T2 P w K mg base := (t1.mono (by decide)).add m1 E1.kp B1 o1 w1
  have o2 : FnOk P w K mg base CX0 3 _ fd2 ["script", "lap"] (spF K F_l_pool) := def_okF t2 E2 sc_l_pool rfl (by decide) c_l_pool
  have t3 : TabOk 3 T3 P w K mg base := (t2.mono (by decide)).add m2 E2.kp B2 o2 w2
  have o3 : FnOk P w K mg base CX0 4 _ fd3 ["pool", "many"] (spF K F_l_below) := def_okF t3 E3 sc_l_below rfl (by decide) c_l_below
  have t4 : TabOk 4 T4 P w K mg base := (t3.mono (by decide)).add m3 E3.kp B3 o3 w3
  have o4 : FnOk P w K mg base CX0 5 _ fd4 ["pool", "some"] (spF K F_l_one) := def_okF t4 E4 sc_l_one rfl (by decide) c_l_one
  have t5 : TabOk 5 T5 P w K mg base := (t4.mono (by decide)).add m4 E4.kp B4 o4 w4
  have o5 : FnOk P w K mg base CX0 6 _ fd5 ["pool"] (spF K F_l_great_plan) := def_okF t5 E5 sc_l_great_plan rfl (by decide) c_l_great_plan
  have t6 : TabOk 6 T6 P w K mg base := (t5.mono (by decide)).add m5 E5.kp B5 o5 w5
  have o6 : FnOk P w K mg base CX0 7 _ fd6 ["pool", "text_there"] (spF K F_l_bent_text) := def_okF t6 E6 sc_l_bent_text rfl (by decide) c_l_bent_text
  have t7 : TabOk 7 T7 P w K mg base := (t6.mono (by decide)).add m6 E6.kp B6 o6 w6
  have r7 : ∀ d, FnOk P w K mg base CX0 (7 + d) _ fd7 ["told", "due"] (spF K ⟨[false, false], R_l_same d⟩) := fun d => by
    induction d with
    | zero => exact fn_none
    | succ d ih => exact def_ok ((t7.mono (Nat.le_add_right _ _)).add m7 E7.kp B7 ih w7) E7 sc_l_same rfl (by decide) (c_l_same _)
  have o7 : FnOk P w K mg base CX0 12 _ fd7 ["told", "due"] (spF K F_l_same) := r7 5
  have t8 : TabOk 12 T8 P w K mg base := (t7.mono (by decide)).add m7 E7.kp B7 o7 w7
  have o8 : FnOk P w K mg base CX0 13 _ fd8 ["word", "words"] (spF K F_begins_some) := def_okF t8 E8 sc_begins_some rfl (by decide) c_begins_some
  have t9 : TabOk 13 T9 P w K mg base := (t8.mono (by decide)).add m8 E8.kp B8 o8 w8
  have o9 : FnOk P w K mg base CX0 14 _ fd9 ["text", "follow"] (spF K F_words_of) := def_okF t9 E9 sc_words_of rfl (by decide) c_words_of
  have t10 : TabOk 14 T10 P w K mg base := (t9.mono (by decide)).add m9 E9.kp B9 o9 w9
  have o10 : FnOk P w K mg base CX0 15 _ fd10 ["words"] (spF K F_rules_by) := def_okF t10 E10 sc_rules_by rfl (by decide) c_rules_by
  have t11 : TabOk 15 T11 P w K mg base := (t10.mono (by decide)).add m10 E10.kp B10 o10 w10
  have o11 : FnOk P w K mg base CX0 15 (He.fAd K ("check_text", none)) fd11 ["value"] (spF K F_check_text) := fn_none
  have t12 : TabOk 15 T12 P w K mg base := (t11.mono (by decide)).add m11 E11.kp B11 o11 w11
  have o12 : FnOk P w K mg base CX0 15 (He.fAd K ("read_rules", none)) fd12 ["text"] (spF K F_read_rules) := fn_none
  have t13 : TabOk 15 T13 P w K mg base := (t12.mono (by decide)).add m12 E12.kp B12 o12 w12
  have o13 : FnOk P w K mg base CX0 16 _ fd13 ["row"] (spF K F_letter_by) := def_okF t13 E13 sc_letter_by rfl (by decide) c_letter_by
  have t14 : TabOk 16 T14 P w K mg base := (t13.mono (by decide)).add m13 E13.kp B13 o13 w13
  have o14 : FnOk P w K mg base CX0 17 _ fd14 ["text"] (spF K F_letters_by) := def_okF t14 E14 sc_letters_by rfl (by decide) c_letters_by
  have t15 : TabOk 17 T15 P w K mg base := (t14.mono (by decide)).add m14 E14.kp B14 o14 w14
  have o15 : FnOk P w K mg base CX0 17 (He.fAd K ("read_letters", none)) fd15 ["text"] (spF K F_read_letters) := fn_none
  have t16 : TabOk 17 T16 P w K mg base := (t15.mono (by decide)).add m15 E15.kp B15 o15 w15
  have o16 : FnOk P w K mg base CX0 18 _ fd16 ["thing"] (spF K F_l_rules_due) := def_okF t16 E16 sc_l_rules_due rfl (by decide) c_l_rules_due
  have t17 : TabOk 18 T17 P w K mg base := (t16.mono (by decide)).add m16 E16.kp B16 o16 w16
  have o17 : FnOk P w K mg base CX0 19 _ fd17 [] (spF K F_l_deeds) := def_okF t17 E17 sc_l_deeds rfl (by decide) c_l_deeds
  have t18 : TabOk 19 T18 P w K mg base := (t17.mono (by decide)).add m17 E17.kp B17 o17 w17
  have o18 : FnOk P w K mg base CX0 20 _ fd18 ["thing"] (spF K F_l_letters_due) := def_okF t18 E18 sc_l_letters_due rfl (by decide) c_l_letters_due
  have t19 : TabOk 20 T19 P w K mg base := (t18.mono (by decide)).add m18 E18.kp B18 o18 w18
  have o19 : FnOk P w K mg base CX0 21 _ fd19 ["pool", "most"] (spF K F_l_letters) := def_okF t19 E19 sc_l_letters rfl (by decide) c_l_letters
  have t20 : TabOk 21 T20 P w K mg base := (t19.mono (by decide)).add m19 E19.kp B19 o19 w19
  have o20 : FnOk P w K mg base CX0 22 _ fd20 ["pool"] (spF K F_l_rows_text) := def_okF t20 E20 sc_l_rows_text rfl (by decide) c_l_rows_text
  have t21 : TabOk 22 T21 P w K mg base := (t20.mono (by decide)).add m20 E20.kp B20 o20 w20
  have tx0 : TabXOk 22 TX0 P w K mg base := (TabXOk.nil).addC ke0
  have ty0 : TabOk 22 T21 P w K mg base := t21
  have ox0 : FnOk P w K mg base (L2.CX P w) 23 _ fd11 ["value"] (spX K mg FX_check_text) := def_okXF ty0 tx0 (by decide) E11 sc_check_text (by decide) cx_check_text
  have tx1 : TabXOk 23 TX1 P w K mg base := (tx0.mono (by decide)).add m11 E11.kp B11 ox0 (fun ks pm h => w11 0 ks pm h)
  have ty1 : TabOk 23 T21 P w K mg base := t21.mono (by decide)
  have ox1 : FnOk P w K mg base (L2.CX P w) 24 _ fd12 ["text"] (spX K mg FX_read_rules) := def_okXF ty1 tx1 (by decide) E12 sc_read_rules (by decide) cx_read_rules
  have tx2 : TabXOk 24 TX2 P w K mg base := (tx1.mono (by decide)).add m12 E12.kp B12 ox1 (fun ks pm h => w12 0 ks pm h)
  have ty2 : TabOk 24 T21 P w K mg base := t21.mono (by decide)
  have ox2 : FnOk P w K mg base (L2.CX P w) 25 _ fd15 ["text"] (spX K mg FX_read_letters) := def_okXF ty2 tx2 (by decide) E15 sc_read_letters (by decide) cx_read_letters
  have tx3 : TabXOk 25 TX3 P w K mg base := (tx2.mono (by decide)).add m15 E15.kp B15 ox2 (fun ks pm h => w15 0 ks pm h)
  have ty3 : TabOk 25 T21 P w K mg base := t21.mono (by decide)
  have t21 : TabOk 25 T21 P w K mg base := ty3
  have o21 : FnOk P w K mg base CX0 26 _ fd21 ["way", "thing", "is_named"] (spF K F_l_told) := def_tryN t21 (tx3.mono (by decide)) (by have e := pk0; rw [← tx0_e] at e; exact e) "InvalidText" "index" (by kernel_rfl) (by decide) E21 sc_l_told rfl (by decide) c_l_told
  have t22 : TabOk 26 T22 P w K mg base := (t21.mono (by decide)).add m21 E21.kp B21 o21 w21
  have o22 : FnOk P w K mg base CX0 27 _ fd22 ["pool"] (spF K F_l_right) := def_okF t22 E22 sc_l_right rfl (by decide) c_l_right
  have t23 : TabOk 27 T23 P w K mg base := (t22.mono (by decide)).add m22 E22.kp B22 o22 w22
  have o23 : FnOk P w K mg base CX0 28 _ fd23 ["script"] (spF K F_law) := def_okF t23 E23 sc_law rfl (by decide) c_law
  exact o23
end K11
open PySem PySem.W PySem.Calls PyProof.Rows
theorem PySem.Challenge.cw_namelease_k11_whole_rules_and_letters_re_holds : PySem.Challenge.rw_namelease_k11_whole_rules_and_letters_re.Holds := by
  w_on; o_law
  refine HandSHeadRun.head_any (r := K11.row) (q := view K11.row.prog [47])
    (H := K11.hk) (ob := K11.ob) (M := 9000) (loose := K11.ls)
    (d := HandSHeadRun.topDef K11.row.prog 47) (kwd := []) K11.ob_eq
    (by kernel_rfl) (fun s => by kernel_rfl)
    K11.run (by kernel_rfl)
    (by kernel_rfl) (by kernel_rfl) (by rfl)
    (by first | assumption | decide +kernel)
    (by decide +kernel)
    ⟨rfl, rfl, rfl, rfl, rfl, by decide +kernel⟩ ?hw ?hc
  case hw => w_witness2
  case hc =>
    refine L2.walk_ofE (l := PySem.Challenge.rw_namelease_k11_whole_rules_and_letters_re) (n := 63) (k := 28)
      (x := "script") (CX := L2.CX0) rfl (by decide) (by kernel_rfl)
      ⟨rfl, by decide, by decide⟩ ?F (fun _ _ _ _ z => z)
    intro w mg fa h Y G hg0
    obtain ⟨K, KX, c, cc, ce, cw⟩ := Y
    have hg : mg ("law" : PySem.Str) = some (.ref fa) := by
      have e : (HandSHeadRun.topDef K11.row.prog 47).name = ("law" : PySem.Str) := by kernel_rfl
      rw [← e]; exact hg0
    obtain ⟨fd, hb, hF⟩ := K11.facts (P := (PySem.Challenge.rw_namelease_k11_whole_rules_and_letters_re).prog) (w := w) KX G hg c cc ce cw (by kernel_rfl) (by kernel_rfl)
    exact ⟨K, fd, Z.spF K K11.F_law, KX, hb, fun H a ns hl _ hS => Z.sp_script rfl (K11.law_true ns hl) hS fun _ => rfl, hF⟩
