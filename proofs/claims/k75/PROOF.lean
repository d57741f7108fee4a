import PyProof.Rows.All
import Wide.All
import OpenK.AllK
import Wide.FinOn
import Lean
import HandS.Base
import HandS.Call
import HandS.Ends
import HandS.More
import HandS.Words
import HandS.WordsExc
import HandS.Defaults
import HandS.Head0
import HandS.Head1
import HandS.Head2
import HandS.HeadEnd
import HandS.HeadHook1
import HandS.HeadHook2
import KE.DataEq
import HandS.ForMost
import HandS.TupAny
import HandS.IsInst
import HandS.TupLen
import HandS.TupLe
import HandS.Zip
import HandS.ExcOwn
import KE.DataMinMax
import HandS.FStr
import HandS.RaiseMore
import PyProof.ReprLen
import KE.DatumOrd
import HandS.MakeKwOnly
import HandS.ExcIs
import HandS.TryOnly
import PyProof.StrLawsIn
import HandS.OwnIter
import HandS.IterVal
import KE.KExcSuper
import HandS.ExcInit
import HandS.ExcField
import HandS.DictTup
import HandS.HotCalls
import HandS.DeepEq
import HandS.DictComp
import HandS.TryMany
import KE.DataFind
import HandS.Deep
import HandS.Rev
import HandS.SetFor
import HandS.SortInts
import HandS.Strs
import KE.KEqDict
import HandS.SuiteRaise
import HandS.RaiseFrom
import HandS.ExcInitHot
import KE.KCtx
import PyProof.StrBlock2
import HandS.NoneIn
import KE.KeyNested
import PySem.Challenge.RW_joinedends_k75_numbers_of_a_theory
set_option Elab.async false
set_option linter.all false
set_option maxRecDepth 100000
set_option maxHeartbeats 0

namespace DL
open PySem PySem.Spec PyProof.Rows L2
abbrev Lk := PySem.W.Frag → Bool
def obsX (fa : List He.Fa) (fn : List He.DefD) (xs : List Lk) (K : PySem.W.Frag) : Bool × He.AlD := (xs.all fun x => x K, He.obsD fa fn K)
def SaysX (fa : List He.Fa) (fn : List He.DefD) (xs : List Lk) (K : PySem.W.Frag) : Prop := obsX fa fn xs K = (true, He.valD fn)
/-- what isinstance asks of a caught exception -/
def lkExc (n : Str) : Lk := fun K => decide (PySem.W.findIn K (.ref (He.ga K n)) "__getattribute__" = some (some (.builtin "BaseException.__getattribute__"))) && (decide (PySem.W.findIn K (.ref (He.ga K n)) "__getattr__" = some none) && (decide (PySem.W.subIn K (.ref (He.ga K n)) (.type "BaseException") = some true) && (PySem.W.hasDictIn K (He.ga K n) &&
  (decide (PySem.W.findIn K (.ref (He.ga K n)) "__class__" = some (some (.builtin "object.__class__"))) && (decide (PySem.W.specialIn K (.builtin "object.__class__") "__get__" = some (some (.builtin "getset_descriptor.__get__"))) && (decide (PySem.W.takesIn K (.builtin "object.__class__") = some true) && decide (PySem.W.mroIn K (He.ga K n) (.type "object") = some true)))))))
/-- n's instances are instances of the class m | of the built-in class m -/
def lkIs (n m : Str) (b : Bool) : Lk := fun K => decide (PySem.W.kitOne K (.ref (He.ga K n)) (.ref (He.ga K m)) = some b)
def lkIsT (n : Str) (m : String) (b : Bool) : Lk := fun K => decide (PySem.W.kitOne K (.ref (He.ga K n)) (.type m) = some b)
/-- the head's look -/
def lkMod : Lk := fun K => match K.lookup sysModules with
  | some o => decide (o.cls ≠ .type "list")
  | none => false
structure SupD where
  cls : Str
  params : Arguments
  body : List Stmt
  scope : Scope
abbrev SupV := Option (Arguments × FuncBody × Scope × Addr × List Str × Addr)
def supObs (K : PySem.W.Frag) (c : Str) : SupV := match K.lookup (He.ma K (He.ga K c) "__init__") with
  | some ⟨_, _, .func fd, _⟩ => some (fd.params, fd.body, fd.scope, fd.globals, fd.closure.map (·.1), fd.builtins)
  | _ => none
def SupD.val (d : SupD) : SupV := some (d.params, .stmts d.body, d.scope, mainGlobals, ["__class__"], builtinsNs)
abbrev AlY := (Bool × He.AlD) × List SupV
def obsY (fa : List He.Fa) (fn : List He.DefD) (xs : List Lk) (ss : List SupD) (K : PySem.W.Frag) : AlY := (obsX fa fn xs K, ss.map fun d => supObs K d.cls)
def SaysY (fa : List He.Fa) (fn : List He.DefD) (xs : List Lk) (ss : List SupD) (K : PySem.W.Frag) : Prop := obsY fa fn xs ss K = ((true, He.valD fn), ss.map SupD.val)
def hookY (n : Nat) (fa : List He.Fa) (fn : List He.DefD) (xs : List Lk) (ss : List SupD) : PySem.W.Hook where
  α := AlY
  obs := fun s => obsY fa fn xs ss (He.frG s.heap.get? (cStatics :: sysModules :: He.asD s.heap.get? n))
  val := fun _ => ((true, He.valD fn), ss.map SupD.val)
  says := fun _ h => ∃ K : PySem.W.Frag, K.In h ∧ SaysY fa fn xs ss K
  of := fun _ _ e => ⟨_, He.frG_in, e⟩
  keeps := fun _ _ _ ⟨K, hK, c⟩ k => ⟨K, PySem.W.Frag.In.keeps hK k, c⟩
def obsYG (n : Nat) (fa : List He.Fa) (fn : List He.DefD) (xs : List Lk) (ss : List SupD) (g : Addr → Option Obj) : AlY := obsY fa fn xs ss (He.frG g (cStatics :: sysModules :: He.asD g n))
theorem obsYG_eq {n : Nat} {fa : List He.Fa} {fn : List He.DefD} {xs : List Lk} {ss : List SupD} {g : Addr → Option Obj} {s : Shared} (h : ∀ a, g a = s.heap.get? a) : obsYG n fa fn xs ss g = (hookY n fa fn xs ss).obs s := by
  have e : g = s.heap.get? := funext h
  rw [e]; rfl
/-- the class as such -/
def oexB (K : PySem.W.Frag) (C : Addr) : Bool := (match K.lookup C with
  | some ⟨.type "type", _, .cls cd, sl⟩ => (match cd.mro, sl.toList with
    | .ref C' :: bm, [_, _, _, _, some (.builtin n), _] => C' == C && n == "ValueError.__new__" && !cd.hasDel && cd.hasDict && PySem.HandSPX.refsVE bm
    | _, _ => false)
  | _ => false) && (decide (PySem.W.findIn K (.ref C) "__setattr__" = some (some (.builtin "object.__setattr__"))) && (decide (PySem.W.subIn K (.ref C) (.type "BaseException") = some true) && (decide (PySem.W.typeIn K (.ref C) = some (.type "type")) && PySem.W.keepIn K (.ref C))))
/-- its __init__ -/
def inB (file : Str) (K : PySem.W.Frag) (C : Addr) : Bool := decide (PySem.W.findIn K (.ref C) "__init__" = some (some (.ref (He.ma K C "__init__")))) && (decide (PySem.W.typeIn K (.ref (He.ma K C "__init__")) = some (.type "function")) && (match K.lookup (He.ma K C "__init__") with
  | some ⟨_, _, .func fd, _⟩ => (match fd.closure, fd.defaults, fd.code with
    | [(_, cc)], .none, .ref cda => PySem.W.codeIn K (.ref cda) fd.qualname && ((match K.lookup cda with
      | some ⟨_, _, .fields vs, _⟩ => (match (vs[2]? : Option Value) with
        | some (Value.str fl _) => file == fl
        | _ => false)
      | _ => false) && (match K.lookup cc with
      | some ⟨_, _, .cell (some (.ref D)), _⟩ => D == C
      | _ => false))
    | _, _, _ => false)
  | _ => false))
def lkSup (file : Str) (n f : Str) : Lk := fun K => oexB K (He.ga K n) && (decide (PySem.W.findIn K (.ref (He.ga K n)) f = some none) && (inB file K (He.ga K n) && (decide (PySem.W.mroIn K (He.ga K n) (.ref (He.ga K n)) = some true) && (decide (PySem.W.ks_superIn K (He.ga K n) (He.ga K n) "__init__" = some (some (.builtin "ValueError.__init__"))) && (decide (PySem.W.subIn K (.ref (He.ga K n)) (.type "ValueError") = some true) && decide (PySem.W.nsIn K cStatics "thirdparty.any" = some none))))))
def lkXf (n : Str) : Lk := fun K => xfB K (He.ga K n)
abbrev PRG : Program := PySem.Challenge.pw_joinedends_k75_numbers_of_a_theory
def topS (i : Nat) : Stmt := PRG.main.body.getD i (.Pass ⟨0, 0, 0, 0⟩)
abbrev s__wall : Stmt := topS 0
abbrev s_UnknownName___init__ : Stmt := inClass (topS 3) 0
abbrev s_WrongArity___init__ : Stmt := inClass (topS 4) 0
abbrev s_is_variable : Stmt := topS 13
abbrev s_size : Stmt := topS 14
abbrev s_depth : Stmt := topS 15
abbrev s_check_size : Stmt := topS 16
abbrev s_symbols : Stmt := topS 17
abbrev s_variables : Stmt := topS 18
abbrev s_AnswerBook___init__ : Stmt := inClass (topS 20) 0
abbrev s_AnswerBook_keep : Stmt := inClass (topS 20) 1
abbrev s_AnswerBook_entry : Stmt := inClass (topS 20) 2
abbrev s_AnswerBook_questions : Stmt := inClass (topS 20) 3
abbrev s_AnswerBook_dropped : Stmt := inClass (topS 20) 4
abbrev s_AnswerBook_added : Stmt := inClass (topS 20) 5
abbrev s_check_equation : Stmt := topS 23
abbrev s_Theory___init__ : Stmt := inClass (topS 24) 0
abbrev s_Theory_add : Stmt := inClass (topS 24) 1
abbrev s_Theory_drop : Stmt := inClass (topS 24) 2
abbrev s_Theory_equation : Stmt := inClass (topS 24) 3
abbrev s_Theory_sources : Stmt := inClass (topS 24) 4
abbrev s_Theory_given : Stmt := inClass (topS 24) 5
abbrev s_Theory_ask : Stmt := inClass (topS 24) 6
abbrev s_Theory_kept : Stmt := inClass (topS 24) 7
abbrev s_Theory_rests_on : Stmt := inClass (topS 24) 8
abbrev s_is_name : Stmt := topS 29
abbrev s_Signature___init__ : Stmt := inClass (topS 30) 0
abbrev s_Signature_declare : Stmt := inClass (topS 30) 1
abbrev s_Signature_copy : Stmt := inClass (topS 30) 2
abbrev s_Signature_require : Stmt := inClass (topS 30) 3
abbrev s_Signature_arity : Stmt := inClass (topS 30) 4
abbrev s_Signature_rank : Stmt := inClass (topS 30) 5
abbrev s_Signature_is_commutative : Stmt := inClass (topS 30) 6
abbrev s_Signature_constants : Stmt := inClass (topS 30) 7
abbrev s_Signature_check_names : Stmt := inClass (topS 30) 8
abbrev s_Signature_check : Stmt := inClass (topS 30) 9
abbrev s_Signature___len__ : Stmt := inClass (topS 30) 10
abbrev s_Signature___contains__ : Stmt := inClass (topS 30) 11
abbrev s_Signature___iter__ : Stmt := inClass (topS 30) 12
abbrev s__law_mix : Stmt := topS 32
abbrev s__law_number : Stmt := topS 33
abbrev s__law_state : Stmt := topS 34
abbrev s__law_draw : Stmt := topS 35
abbrev s__law_word : Stmt := topS 36
abbrev s__law_names : Stmt := topS 37
abbrev s__law_operations : Stmt := topS 38
abbrev s__law_leaf : Stmt := topS 39
abbrev s__law_term : Stmt := topS 40
abbrev s__law_same : Stmt := topS 41
abbrev s__law_signature : Stmt := topS 42
abbrev s__law_is_integer : Stmt := topS 43
abbrev s__law_told : Stmt := topS 44
abbrev s__law_drop : Stmt := topS 45
abbrev s__law_missing : Stmt := topS 46
abbrev s__law_agrees : Stmt := topS 47
abbrev s__law_equation : Stmt := topS 48
abbrev s_law : Stmt := topS 49
def d__wall : He.DefD := ⟨("_wall", none), "_wall", "_wall", defArgs s__wall, defBody s__wall, defScope s__wall, [], []⟩
def d_UnknownName___init__ : He.DefD := ⟨("UnknownName", some "__init__"), "__init__", "UnknownName.__init__", defArgs s_UnknownName___init__, defBody s_UnknownName___init__, defScope s_UnknownName___init__, [], []⟩
def d_WrongArity___init__ : He.DefD := ⟨("WrongArity", some "__init__"), "__init__", "WrongArity.__init__", defArgs s_WrongArity___init__, defBody s_WrongArity___init__, defScope s_WrongArity___init__, [], []⟩
def d_is_variable : He.DefD := ⟨("is_variable", none), "is_variable", "is_variable", defArgs s_is_variable, defBody s_is_variable, defScope s_is_variable, [], []⟩
def d_size : He.DefD := ⟨("size", none), "size", "size", defArgs s_size, defBody s_size, defScope s_size, [], []⟩
def d_depth : He.DefD := ⟨("depth", none), "depth", "depth", defArgs s_depth, defBody s_depth, defScope s_depth, [], []⟩
def d_check_size : He.DefD := ⟨("check_size", none), "check_size", "check_size", defArgs s_check_size, defBody s_check_size, defScope s_check_size, [], []⟩
def d_symbols : He.DefD := ⟨("symbols", none), "symbols", "symbols", defArgs s_symbols, defBody s_symbols, defScope s_symbols, [], []⟩
def d_variables : He.DefD := ⟨("variables", none), "variables", "variables", defArgs s_variables, defBody s_variables, defScope s_variables, [], []⟩
def d_AnswerBook___init__ : He.DefD := ⟨("AnswerBook", some "__init__"), "__init__", "AnswerBook.__init__", defArgs s_AnswerBook___init__, defBody s_AnswerBook___init__, defScope s_AnswerBook___init__, [], []⟩
def d_AnswerBook_keep : He.DefD := ⟨("AnswerBook", some "keep"), "keep", "AnswerBook.keep", defArgs s_AnswerBook_keep, defBody s_AnswerBook_keep, defScope s_AnswerBook_keep, [], []⟩
def d_AnswerBook_entry : He.DefD := ⟨("AnswerBook", some "entry"), "entry", "AnswerBook.entry", defArgs s_AnswerBook_entry, defBody s_AnswerBook_entry, defScope s_AnswerBook_entry, [], []⟩
def d_AnswerBook_questions : He.DefD := ⟨("AnswerBook", some "questions"), "questions", "AnswerBook.questions", defArgs s_AnswerBook_questions, defBody s_AnswerBook_questions, defScope s_AnswerBook_questions, [], []⟩
def d_AnswerBook_dropped : He.DefD := ⟨("AnswerBook", some "dropped"), "dropped", "AnswerBook.dropped", defArgs s_AnswerBook_dropped, defBody s_AnswerBook_dropped, defScope s_AnswerBook_dropped, [], []⟩
def d_AnswerBook_added : He.DefD := ⟨("AnswerBook", some "added"), "added", "AnswerBook.added", defArgs s_AnswerBook_added, defBody s_AnswerBook_added, defScope s_AnswerBook_added, [], []⟩
def d_check_equation : He.DefD := ⟨("check_equation", none), "check_equation", "check_equation", defArgs s_check_equation, defBody s_check_equation, defScope s_check_equation, [], []⟩
def d_Theory___init__ : He.DefD := ⟨("Theory", some "__init__"), "__init__", "Theory.__init__", defArgs s_Theory___init__, defBody s_Theory___init__, defScope s_Theory___init__, [], []⟩
def d_Theory_add : He.DefD := ⟨("Theory", some "add"), "add", "Theory.add", defArgs s_Theory_add, defBody s_Theory_add, defScope s_Theory_add, [], []⟩
def d_Theory_drop : He.DefD := ⟨("Theory", some "drop"), "drop", "Theory.drop", defArgs s_Theory_drop, defBody s_Theory_drop, defScope s_Theory_drop, [], []⟩
def d_Theory_equation : He.DefD := ⟨("Theory", some "equation"), "equation", "Theory.equation", defArgs s_Theory_equation, defBody s_Theory_equation, defScope s_Theory_equation, [], []⟩
def d_Theory_sources : He.DefD := ⟨("Theory", some "sources"), "sources", "Theory.sources", defArgs s_Theory_sources, defBody s_Theory_sources, defScope s_Theory_sources, [], []⟩
def d_Theory_given : He.DefD := ⟨("Theory", some "given"), "given", "Theory.given", defArgs s_Theory_given, defBody s_Theory_given, defScope s_Theory_given, [], []⟩
def d_Theory_ask : He.DefD := ⟨("Theory", some "ask"), "ask", "Theory.ask", defArgs s_Theory_ask, defBody s_Theory_ask, defScope s_Theory_ask, [], [("steps", (.int 30)), ("max_size", (.int 2)), ("max_models", (.int 500))]⟩
def d_Theory_kept : He.DefD := ⟨("Theory", some "kept"), "kept", "Theory.kept", defArgs s_Theory_kept, defBody s_Theory_kept, defScope s_Theory_kept, [], []⟩
def d_Theory_rests_on : He.DefD := ⟨("Theory", some "rests_on"), "rests_on", "Theory.rests_on", defArgs s_Theory_rests_on, defBody s_Theory_rests_on, defScope s_Theory_rests_on, [], []⟩
def d_is_name : He.DefD := ⟨("is_name", none), "is_name", "is_name", defArgs s_is_name, defBody s_is_name, defScope s_is_name, [], []⟩
def d_Signature___init__ : He.DefD := ⟨("Signature", some "__init__"), "__init__", "Signature.__init__", defArgs s_Signature___init__, defBody s_Signature___init__, defScope s_Signature___init__, [], []⟩
def d_Signature_declare : He.DefD := ⟨("Signature", some "declare"), "declare", "Signature.declare", defArgs s_Signature_declare, defBody s_Signature_declare, defScope s_Signature_declare, [], [("commutative", (.bl false))]⟩
def d_Signature_copy : He.DefD := ⟨("Signature", some "copy"), "copy", "Signature.copy", defArgs s_Signature_copy, defBody s_Signature_copy, defScope s_Signature_copy, [], []⟩
def d_Signature_require : He.DefD := ⟨("Signature", some "require"), "require", "Signature.require", defArgs s_Signature_require, defBody s_Signature_require, defScope s_Signature_require, [], []⟩
def d_Signature_arity : He.DefD := ⟨("Signature", some "arity"), "arity", "Signature.arity", defArgs s_Signature_arity, defBody s_Signature_arity, defScope s_Signature_arity, [], []⟩
def d_Signature_rank : He.DefD := ⟨("Signature", some "rank"), "rank", "Signature.rank", defArgs s_Signature_rank, defBody s_Signature_rank, defScope s_Signature_rank, [], []⟩
def d_Signature_is_commutative : He.DefD := ⟨("Signature", some "is_commutative"), "is_commutative", "Signature.is_commutative", defArgs s_Signature_is_commutative, defBody s_Signature_is_commutative, defScope s_Signature_is_commutative, [], []⟩
def d_Signature_constants : He.DefD := ⟨("Signature", some "constants"), "constants", "Signature.constants", defArgs s_Signature_constants, defBody s_Signature_constants, defScope s_Signature_constants, [], []⟩
def d_Signature_check_names : He.DefD := ⟨("Signature", some "check_names"), "check_names", "Signature.check_names", defArgs s_Signature_check_names, defBody s_Signature_check_names, defScope s_Signature_check_names, [], []⟩
def d_Signature_check : He.DefD := ⟨("Signature", some "check"), "check", "Signature.check", defArgs s_Signature_check, defBody s_Signature_check, defScope s_Signature_check, [], []⟩
def d_Signature___len__ : He.DefD := ⟨("Signature", some "__len__"), "__len__", "Signature.__len__", defArgs s_Signature___len__, defBody s_Signature___len__, defScope s_Signature___len__, [], []⟩
def d_Signature___contains__ : He.DefD := ⟨("Signature", some "__contains__"), "__contains__", "Signature.__contains__", defArgs s_Signature___contains__, defBody s_Signature___contains__, defScope s_Signature___contains__, [], []⟩
def d_Signature___iter__ : He.DefD := ⟨("Signature", some "__iter__"), "__iter__", "Signature.__iter__", defArgs s_Signature___iter__, defBody s_Signature___iter__, defScope s_Signature___iter__, [], []⟩
def d__law_mix : He.DefD := ⟨("_law_mix", none), "_law_mix", "_law_mix", defArgs s__law_mix, defBody s__law_mix, defScope s__law_mix, [], []⟩
def d__law_number : He.DefD := ⟨("_law_number", none), "_law_number", "_law_number", defArgs s__law_number, defBody s__law_number, defScope s__law_number, [], []⟩
def d__law_state : He.DefD := ⟨("_law_state", none), "_law_state", "_law_state", defArgs s__law_state, defBody s__law_state, defScope s__law_state, [], []⟩
def d__law_draw : He.DefD := ⟨("_law_draw", none), "_law_draw", "_law_draw", defArgs s__law_draw, defBody s__law_draw, defScope s__law_draw, [], []⟩
def d__law_word : He.DefD := ⟨("_law_word", none), "_law_word", "_law_word", defArgs s__law_word, defBody s__law_word, defScope s__law_word, [], []⟩
def d__law_names : He.DefD := ⟨("_law_names", none), "_law_names", "_law_names", defArgs s__law_names, defBody s__law_names, defScope s__law_names, [], []⟩
def d__law_operations : He.DefD := ⟨("_law_operations", none), "_law_operations", "_law_operations", defArgs s__law_operations, defBody s__law_operations, defScope s__law_operations, [], []⟩
def d__law_leaf : He.DefD := ⟨("_law_leaf", none), "_law_leaf", "_law_leaf", defArgs s__law_leaf, defBody s__law_leaf, defScope s__law_leaf, [], []⟩
def d__law_term : He.DefD := ⟨("_law_term", none), "_law_term", "_law_term", defArgs s__law_term, defBody s__law_term, defScope s__law_term, [], []⟩
def d__law_same : He.DefD := ⟨("_law_same", none), "_law_same", "_law_same", defArgs s__law_same, defBody s__law_same, defScope s__law_same, [], []⟩
def d__law_signature : He.DefD := ⟨("_law_signature", none), "_law_signature", "_law_signature", defArgs s__law_signature, defBody s__law_signature, defScope s__law_signature, [], []⟩
def d__law_is_integer : He.DefD := ⟨("_law_is_integer", none), "_law_is_integer", "_law_is_integer", defArgs s__law_is_integer, defBody s__law_is_integer, defScope s__law_is_integer, [], []⟩
def d__law_told : He.DefD := ⟨("_law_told", none), "_law_told", "_law_told", defArgs s__law_told, defBody s__law_told, defScope s__law_told, [], []⟩
def d__law_drop : He.DefD := ⟨("_law_drop", none), "_law_drop", "_law_drop", defArgs s__law_drop, defBody s__law_drop, defScope s__law_drop, [], []⟩
def d__law_missing : He.DefD := ⟨("_law_missing", none), "_law_missing", "_law_missing", defArgs s__law_missing, defBody s__law_missing, defScope s__law_missing, [], []⟩
def d__law_agrees : He.DefD := ⟨("_law_agrees", none), "_law_agrees", "_law_agrees", defArgs s__law_agrees, defBody s__law_agrees, defScope s__law_agrees, [], []⟩
def d__law_equation : He.DefD := ⟨("_law_equation", none), "_law_equation", "_law_equation", defArgs s__law_equation, defBody s__law_equation, defScope s__law_equation, [], []⟩
def d_law : He.DefD := ⟨("law", none), "law", "law", defArgs s_law, defBody s_law, defScope s_law, [], []⟩
def fnL0 : List He.DefD := [d__wall, d_is_variable, d_size, d_depth, d_check_size, d_symbols, d_variables, d_AnswerBook___init__, d_AnswerBook_keep, d_AnswerBook_entry, d_AnswerBook_questions, d_AnswerBook_dropped, d_AnswerBook_added, d_check_equation, d_Theory___init__, d_Theory_add, d_Theory_drop, d_Theory_equation, d_Theory_sources, d_Theory_given, d_Theory_ask, d_Theory_kept, d_Theory_rests_on, d_is_name, d_Signature___init__, d_Signature_declare, d_Signature_copy, d_Signature_require, d_Signature_arity, d_Signature_rank]
def fnL1 : List He.DefD := [d_Signature_is_commutative, d_Signature_constants, d_Signature_check_names, d_Signature_check, d_Signature___len__, d_Signature___contains__, d_Signature___iter__, d__law_mix, d__law_number, d__law_state, d__law_draw, d__law_word, d__law_names, d__law_operations, d__law_leaf, d__law_term, d__law_same, d__law_signature, d__law_is_integer, d__law_told, d__law_drop, d__law_missing, d__law_agrees, d__law_equation, d_law]
def fnL : List He.DefD := fnL0 ++ fnL1
def faL0 : List He.Fa := [.glo "_wall", .glo "is_variable", .glo "size", .glo "depth", .glo "check_size", .glo "symbols", .glo "variables", .glo "check_equation", .glo "is_name", .glo "_law_mix", .glo "_law_number", .glo "_law_state", .glo "_law_draw", .glo "_law_word", .glo "_law_names", .glo "_law_operations", .glo "_law_leaf", .glo "_law_term", .glo "_law_same", .glo "_law_signature", .glo "_law_is_integer", .glo "_law_told", .glo "_law_drop", .glo "_law_missing", .glo "_law_agrees", .glo "_law_equation", .glo "law", .glo "HallError", .glo "UnknownName", .glo "WrongArity"]
def faL1 : List He.Fa := [.glo "InvalidName", .glo "InvalidArity", .glo "Duplicate", .glo "TooLarge", .glo "NotFound", .glo "AnswerBook", .glo "Theory", .glo "Signature", .free "ValueError", .free "bool", .free "int", .free "isinstance", .free "iter", .free "len", .free "list", .free "max", .free "range", .free "repr", .free "sorted", .free "str", .free "super", .free "tuple", .int "MAX_SIZE" 400, .int "MAX_DEPTH" 30, .int "MAX_EQUATION_VARIABLE" 9, .str "LETTERS" "abcdefghijklmnopqrstuvwxyz", .int "MAX_OPERATIONS" 12, .int "MAX_ARITY" 3, .exc "TooLarge", .cls "AnswerBook"]
def faL2 : List He.Fa := [.noat "AnswerBook" "entries", .cls "Signature", .noat "Signature" "arities", .meth "Signature" "require", .meth "Signature" "check_names", .meth "Signature" "check", .noat "Signature" "order", .noat "Signature" "flags", .exc "InvalidName", .exc "InvalidArity", .exc "Duplicate", .mkr "Signature", .meth "Signature" "declare", .meth "Signature" "copy", .cls "Theory", .noat "Theory" "signature", .noat "Theory" "equations", .noat "Theory" "next_number", .mkr "AnswerBook", .noat "Theory" "book", .exc "NotFound", .meth "AnswerBook" "added", .meth "Theory" "equation", .meth "AnswerBook" "dropped", .meth "Theory" "sources", .meth "Theory" "add", .exm "UnknownName" "UnknownName" true, .exm "TooLarge" "UnknownName" false, .exm "TooLarge" "TooLarge" true, .meth "Theory" "drop"]
def faL3 : List He.Fa := [.exm "NotFound" "NotFound" true, .meth "Theory" "given", .mkr "Theory"]
def faL : List He.Fa := faL0 ++ faL1 ++ faL2 ++ faL3
def looseL0 : List PySem.Str := ["_wall", "is_variable", "size", "depth", "check_size", "symbols", "variables", "check_equation", "is_name", "_law_mix", "_law_number", "_law_state", "_law_draw", "_law_word", "_law_names", "_law_operations", "_law_leaf", "_law_term", "_law_same", "_law_signature", "_law_is_integer", "_law_told", "_law_drop", "_law_missing", "_law_agrees", "_law_equation", "HallError", "UnknownName", "WrongArity", "InvalidName"]
def looseL1 : List PySem.Str := ["InvalidArity", "Duplicate", "TooLarge", "NotFound", "AnswerBook", "Theory", "Signature", "MAX_SIZE", "MAX_DEPTH", "MAX_EQUATION_VARIABLE", "LETTERS", "MAX_OPERATIONS", "MAX_ARITY"]
def looseL : List PySem.Str := looseL0 ++ looseL1
def xsL : List Lk := [lkSup PRG.main.file "UnknownName" "name", lkSup PRG.main.file "WrongArity" "name", lkXf "UnknownName", lkExc "NotFound", lkIsT "NotFound" "ValueError" true, lkMod]
def su_UnknownName : SupD := ⟨"UnknownName", defArgs s_UnknownName___init__, defBody s_UnknownName___init__, defScope s_UnknownName___init__⟩
def su_WrongArity : SupD := ⟨"WrongArity", defArgs s_WrongArity___init__, defBody s_WrongArity___init__, defScope s_WrongArity___init__⟩
def ssL : List SupD := [su_UnknownName, su_WrongArity]
abbrev R : PySem.W.OpenRow := PySem.W.OpenLaw.row PySem.Challenge.rw_joinedends_k75_numbers_of_a_theory
abbrev hk : PySem.W.Hook := hookY 4 faL fnL xsL ssL
def ob (s : PySem.W.SharedT) : AlY := obsYG 4 faL fnL xsL ssL (HandSHeadRun.getT s)
theorem ob_eq (s : PySem.W.SharedT) : ob s = hk.obs s.abs := obsYG_eq (HandSHeadRun.getT_eq s)
theorem run (w : World) : HandSHeadRun.RunEq R (PySem.W.view R.prog [49]) hk ob 8000 looseL w := by
  intro os
  kernel_rfl
end DL
namespace DL
open PySem PySem.Spec PyProof.Rows L2

inductive D where
  | non | bl (b : Bool) | int (i : Int) | str (x : Str) | ty (n : String) | ptr (a : Addr)
  | tup (ds : List D) | lst (ds : List D) | flst (ds : List D) | dk (kds : List (Key × D)) | dt (kds : List (List Key × D))
  | fobj (n : Str) (fs : List (Str × D))

def dkC : HO → Option (List (Key × V))
  | .dK kvs => some kvs
  | .frz _ (.dK kvs) => some kvs
  | _ => none
def dtC : HO → Option (List (List Key × V))
  | .dT kvs => some kvs
  | .frz _ (.dT kvs) => some kvs
  | _ => none
def Alike (o o' : HO) : Prop := o' = o ∨ (∃ kvs, dkC o = some kvs ∧ dkC o' = some kvs) ∨ ∃ kvs, dtC o = some kvs ∧ dtC o' = some kvs
theorem dk_dt {o : HO} {kvs : List (Key × V)} {kvs' : List (List Key × V)} (h : dkC o = some kvs) (h' : dtC o = some kvs') : False := by
  unfold dkC at h
  split at h
  · cases h'
  · cases h'
  · cases h
theorem Alike.trans {o o' o'' : HO} (h : Alike o o') (h' : Alike o' o'') : Alike o o'' := by
  rcases h with rfl | ⟨kvs, a, b⟩ | ⟨kvs, a, b⟩
  · exact h'
  · rcases h' with rfl | ⟨kvs', a', b'⟩ | ⟨kvs', a', b'⟩
    · exact .inr (.inl ⟨kvs, a, b⟩)
    · rw [b] at a'; cases a'; exact .inr (.inl ⟨kvs, a, b'⟩)
    · exact (dk_dt b a').elim
  · rcases h' with rfl | ⟨kvs', a', b'⟩ | ⟨kvs', a', b'⟩
    · exact .inr (.inr ⟨kvs, a, b⟩)
    · exact (dk_dt a' b).elim
    · rw [b] at a'; cases a'; exact .inr (.inr ⟨kvs, a, b'⟩)
/-- dicts may have been locked or unlocked -/
def SameL (G G' : Hp) : Prop := ∀ b o, G b = some o → ∃ o', G' b = some o' ∧ Alike o o'
theorem SameL.at {G G' : Hp} (h : SameL G G') {b : Addr} {o : HO} (e : G b = some o) (hk : dkC o = none) (ht : dtC o = none) : G' b = some o := by
  obtain ⟨o', e', rfl | ⟨_, a, _⟩ | ⟨_, a, _⟩⟩ := h b o e
  · exact e'
  · rw [hk] at a; cases a
  · rw [ht] at a; cases a
theorem SameL.trans {G G' G'' : Hp} (h : SameL G G') (h' : SameL G' G'') : SameL G G'' := fun b o e =>
  let ⟨o', e', a⟩ := h b o e
  let ⟨o'', e'', a'⟩ := h' b o' e'
  ⟨o'', e'', a.trans a'⟩
theorem SameL.refl (G : Hp) : SameL G G := fun _ o e => ⟨o, e, .inl rfl⟩
/-- dicts may have been locked -/
def Locked (o o' : HO) : Prop := o' = o ∨ (∃ kvs u, o = .dK kvs ∧ o' = .frz u (.dK kvs)) ∨ ∃ kvs u, o = .dT kvs ∧ o' = .frz u (.dT kvs)
def Same (G G' : Hp) : Prop := ∀ b o, G b = some o → ∃ o', G' b = some o' ∧ Locked o o'
theorem Locked.trans {o o' o'' : HO} (h : Locked o o') (h' : Locked o' o'') : Locked o o'' := by
  rcases h with rfl | ⟨kvs, u, rfl, rfl⟩ | ⟨kvs, u, rfl, rfl⟩
  · exact h'
  · rcases h' with rfl | ⟨_, _, e, _⟩ | ⟨_, _, e, _⟩
    · exact .inr (.inl ⟨kvs, u, rfl, rfl⟩)
    · cases e
    · cases e
  · rcases h' with rfl | ⟨_, _, e, _⟩ | ⟨_, _, e, _⟩
    · exact .inr (.inr ⟨kvs, u, rfl, rfl⟩)
    · cases e
    · cases e
theorem Same.refl (G : Hp) : Same G G := fun _ o e => ⟨o, e, .inl rfl⟩
theorem Same.trans {G G' G'' : Hp} (h : Same G G') (h' : Same G' G'') : Same G G'' := fun b o e =>
  let ⟨o', e', a⟩ := h b o e
  let ⟨o'', e'', a'⟩ := h' b o' e'
  ⟨o'', e'', a.trans a'⟩
theorem Same.l {G G' : Hp} (h : Same G G') : SameL G G' := fun b o e => by
  obtain ⟨o', e', a⟩ := h b o e
  refine ⟨o', e', ?_⟩
  rcases a with rfl | ⟨kvs, u, rfl, rfl⟩ | ⟨kvs, u, rfl, rfl⟩
  · exact .inl rfl
  · exact .inr (.inl ⟨kvs, rfl, rfl⟩)
  · exact .inr (.inr ⟨kvs, rfl, rfl⟩)
theorem Same.at {G G' : Hp} (h : Same G G') {b : Addr} {o : HO} (e : G b = some o) (hk : dkC o = none) (ht : dtC o = none) : G' b = some o := h.l.at e hk ht
theorem Same.frz {G G' : Hp} (h : Same G G') {b : Addr} {u : Obj} {o : HO} (e : G b = some (.frz u o)) : G' b = some (.frz u o) := by
  obtain ⟨o', e', rfl | ⟨_, _, a, _⟩ | ⟨_, _, a, _⟩⟩ := h b _ e
  · exact e'
  · cases a
  · cases a
section
variable (K : PySem.W.Frag) (G : Hp)
def FK (a : Addr) (kvs : List (Key × V)) : Prop := ∃ o, G a = some o ∧ dkC o = some kvs
def FT (a : Addr) (kvs : List (List Key × V)) : Prop := ∃ o, G a = some o ∧ dtC o = some kvs
/-- a list stands at a for good -/
def FA (a : Addr) (vs : List V) : Prop := (∃ o, G a = some (.frz o (.lst vs))) ∨ SqL K (fun _ => none) a vs
mutual
def IsD : D → V → Prop
  | .non, v => v = .non
  | .bl b, v => v = .bl b
  | .int i, v => v = .int i
  | .str x, v => v = .str x
  | .ty n, v => v = .ty n
  | .ptr a, v => v = .ref a
  | .tup ds, v => ∃ a vs, v = .ref a ∧ G a = some (.tup vs) ∧ IsDs ds vs
  | .lst ds, v => ∃ a vs, v = .ref a ∧ G a = some (.lst vs) ∧ IsDs ds vs
  | .flst ds, v => ∃ a vs, v = .ref a ∧ FA K G a vs ∧ IsDs ds vs
  | .dk kds, v => ∃ a kvs, v = .ref a ∧ FK G a kvs ∧ IsKs kds kvs
  | .dt kds, v => ∃ a kvs, v = .ref a ∧ FT G a kvs ∧ IsTs kds kvs
  | .fobj n fs, v => ∃ a dx vs, v = .ref a ∧ G a = some (.ins (He.ga K n) dx vs) ∧ IsFs fs vs
def IsDs : List D → List V → Prop
  | [], vs => vs = []
  | d :: ds, vs => ∃ v r, vs = v :: r ∧ IsD d v ∧ IsDs ds r
def IsKs : List (Key × D) → List (Key × V) → Prop
  | [], kvs => kvs = []
  | (k, d) :: ds, kvs => ∃ v r, kvs = (k, v) :: r ∧ IsD d v ∧ IsKs ds r
def IsTs : List (List Key × D) → List (List Key × V) → Prop
  | [], kvs => kvs = []
  | (k, d) :: ds, kvs => ∃ v r, kvs = (k, v) :: r ∧ IsD d v ∧ IsTs ds r
def IsFs : List (Str × D) → List (Str × V) → Prop
  | [], kvs => kvs = []
  | (k, d) :: ds, kvs => ∃ v r, kvs = (k, v) :: r ∧ IsD d v ∧ IsFs ds r
end
end
section
variable {K : PySem.W.Frag} {G G' : Hp}
theorem FA.upL {a : Addr} {vs : List V} (s : SameL G G') (h : FA K G a vs) : FA K G' a vs := h.imp (fun ⟨o, e⟩ => ⟨o, s.at e rfl rfl⟩) id
theorem FK.upL {a : Addr} {kvs : List (Key × V)} (s : SameL G G') (h : FK G a kvs) : FK G' a kvs := by
  obtain ⟨o, e, c⟩ := h
  obtain ⟨o', e', rfl | ⟨_, x, y⟩ | ⟨_, x, y⟩⟩ := s _ _ e
  · exact ⟨o', e', c⟩
  · rw [c] at x; cases x; exact ⟨o', e', y⟩
  · exact (dk_dt c x).elim
theorem FT.upL {a : Addr} {kvs : List (List Key × V)} (s : SameL G G') (h : FT G a kvs) : FT G' a kvs := by
  obtain ⟨o, e, c⟩ := h
  obtain ⟨o', e', rfl | ⟨_, x, y⟩ | ⟨_, x, y⟩⟩ := s _ _ e
  · exact ⟨o', e', c⟩
  · exact (dk_dt x c).elim
  · rw [c] at x; cases x; exact ⟨o', e', y⟩
mutual
theorem IsD.upL (s : SameL G G') : ∀ (d : D) (v : V), IsD K G d v → IsD K G' d v
  | .non, _, h => h
  | .bl _, _, h => h
  | .int _, _, h => h
  | .str _, _, h => h
  | .ty _, _, h => h
  | .ptr _, _, h => h
  | .tup ds, _, h => by
    obtain ⟨a, vs, e, h1, h2⟩ := h
    exact ⟨a, vs, e, s.at h1 rfl rfl, IsDs.upL s ds vs h2⟩
  | .lst ds, _, h => by
    obtain ⟨a, vs, e, h1, h2⟩ := h
    exact ⟨a, vs, e, s.at h1 rfl rfl, IsDs.upL s ds vs h2⟩
  | .flst ds, _, h => by
    obtain ⟨a, vs, e, h1, h2⟩ := h
    exact ⟨a, vs, e, h1.upL s, IsDs.upL s ds vs h2⟩
  | .dk kds, _, h => by
    obtain ⟨a, vs, e, h1, h2⟩ := h
    exact ⟨a, vs, e, h1.upL s, IsKs.upL s kds vs h2⟩
  | .dt kds, _, h => by
    obtain ⟨a, vs, e, h1, h2⟩ := h
    exact ⟨a, vs, e, h1.upL s, IsTs.upL s kds vs h2⟩
  | .fobj _ fs, _, h => by
    obtain ⟨a, dx, vs, e, h1, h2⟩ := h
    exact ⟨a, dx, vs, e, s.at h1 rfl rfl, IsFs.upL s fs vs h2⟩
theorem IsDs.upL (s : SameL G G') : ∀ (ds : List D) (vs : List V), IsDs K G ds vs → IsDs K G' ds vs
  | [], _, h => h
  | d :: ds, _, h => by
    obtain ⟨v, r, e, h1, h2⟩ := h
    exact ⟨v, r, e, IsD.upL s d v h1, IsDs.upL s ds r h2⟩
theorem IsKs.upL (s : SameL G G') : ∀ (ds : List (Key × D)) (vs : List (Key × V)), IsKs K G ds vs → IsKs K G' ds vs
  | [], _, h => h
  | (k, d) :: ds, _, h => by
    obtain ⟨v, r, e, h1, h2⟩ := h
    exact ⟨v, r, e, IsD.upL s d v h1, IsKs.upL s ds r h2⟩
theorem IsTs.upL (s : SameL G G') : ∀ (ds : List (List Key × D)) (vs : List (List Key × V)), IsTs K G ds vs → IsTs K G' ds vs
  | [], _, h => h
  | (k, d) :: ds, _, h => by
    obtain ⟨v, r, e, h1, h2⟩ := h
    exact ⟨v, r, e, IsD.upL s d v h1, IsTs.upL s ds r h2⟩
theorem IsFs.upL (s : SameL G G') : ∀ (ds : List (Str × D)) (vs : List (Str × V)), IsFs K G ds vs → IsFs K G' ds vs
  | [], _, h => h
  | (k, d) :: ds, _, h => by
    obtain ⟨v, r, e, h1, h2⟩ := h
    exact ⟨v, r, e, IsD.upL s d v h1, IsFs.upL s ds r h2⟩
end
theorem FA.up {a : Addr} {vs : List V} (s : Same G G') (h : FA K G a vs) : FA K G' a vs := h.upL s.l
theorem FK.up {a : Addr} {kvs : List (Key × V)} (s : Same G G') (h : FK G a kvs) : FK G' a kvs := h.upL s.l
theorem FT.up {a : Addr} {kvs : List (List Key × V)} (s : Same G G') (h : FT G a kvs) : FT G' a kvs := h.upL s.l
theorem IsD.up (s : Same G G') (d : D) (v : V) (h : IsD K G d v) : IsD K G' d v := IsD.upL s.l d v h
theorem IsDs.up (s : Same G G') (ds : List D) (vs : List V) (h : IsDs K G ds vs) : IsDs K G' ds vs := IsDs.upL s.l ds vs h
theorem IsKs.up (s : Same G G') (ds : List (Key × D)) (vs : List (Key × V)) (h : IsKs K G ds vs) : IsKs K G' ds vs := IsKs.upL s.l ds vs h
theorem IsTs.up (s : Same G G') (ds : List (List Key × D)) (vs : List (List Key × V)) (h : IsTs K G ds vs) : IsTs K G' ds vs := IsTs.upL s.l ds vs h
theorem IsDs.length : ∀ {ds : List D} {vs : List V}, IsDs K G ds vs → ds.length = vs.length
  | [], _, h => by cases h; rfl
  | d :: ds, _, h => by
    obtain ⟨v, r, e, _, h2⟩ := h
    rw [e, List.length_cons, List.length_cons, IsDs.length h2]
theorem IsDs.get : ∀ {ds : List D} {vs : List V} {i : Nat} {d : D}, IsDs K G ds vs → ds[i]? = some d → ∃ v, vs[i]? = some v ∧ IsD K G d v
  | [], _, _, _, _, e => by simp at e
  | d :: ds, _, 0, d', h, e => by
    obtain ⟨v, r, e2, h1, _⟩ := h
    subst e2
    have e3 : d = d' := by simpa using e
    exact ⟨v, rfl, e3 ▸ h1⟩
  | d :: ds, _, i + 1, d', h, e => by
    obtain ⟨v, r, e2, _, h2⟩ := h
    subst e2
    obtain ⟨u, h3, h4⟩ := IsDs.get (i := i) (d := d') h2 (by simpa using e)
    exact ⟨u, by simpa using h3, h4⟩
theorem IsDs.append : ∀ {ds es : List D} {vs us : List V}, IsDs K G ds vs → IsDs K G es us → IsDs K G (ds ++ es) (vs ++ us)
  | [], _, _, _, h, h' => by cases h; exact h'
  | d :: ds, _, _, _, h, h' => by
    obtain ⟨v, r, e2, h1, h2⟩ := h
    subst e2
    exact ⟨v, r ++ _, rfl, h1, h2.append h'⟩
theorem IsDs.take : ∀ (n : Nat) {ds : List D} {vs : List V}, IsDs K G ds vs → IsDs K G (ds.take n) (vs.take n)
  | 0, _, _, _ => by simp [IsDs]
  | _ + 1, [], _, h => by cases h; simp [IsDs]
  | n + 1, d :: ds, _, h => by
    obtain ⟨v, r, e2, h1, h2⟩ := h
    subst e2
    exact ⟨v, r.take n, rfl, h1, h2.take n⟩
theorem IsDs.drop : ∀ (n : Nat) {ds : List D} {vs : List V}, IsDs K G ds vs → IsDs K G (ds.drop n) (vs.drop n)
  | 0, _, _, h => h
  | _ + 1, [], _, h => by cases h; simp [IsDs]
  | n + 1, d :: ds, _, h => by
    obtain ⟨v, r, e2, h1, h2⟩ := h
    subst e2
    exact h2.drop n
theorem IsDs.reverse {ds : List D} {vs : List V} (h : IsDs K G ds vs) : IsDs K G ds.reverse vs.reverse := by
  induction ds generalizing vs with
  | nil => cases h; simp [IsDs]
  | cons d ds ih =>
    obtain ⟨v, r, e2, h1, h2⟩ := h
    subst e2
    rw [List.reverse_cons, List.reverse_cons]
    exact (ih h2).append ⟨v, [], rfl, h1, rfl⟩
theorem IsDs.set {d : D} {v : V} (hd : IsD K G d v) : ∀ (i : Nat) {ds : List D} {vs : List V}, IsDs K G ds vs → IsDs K G (ds.set i d) (vs.set i v)
  | _, [], _, h => by cases h; simp [IsDs]
  | 0, _ :: _, _, h => by
    obtain ⟨u, r, e2, _, h2⟩ := h
    subst e2
    exact ⟨v, r, rfl, hd, h2⟩
  | i + 1, _ :: _, _, h => by
    obtain ⟨u, r, e2, h1, h2⟩ := h
    subst e2
    exact ⟨u, r.set i v, rfl, h1, h2.set hd i⟩
theorem IsDs.ints : ∀ {ns : List Int} {vs : List V}, IsDs K G (ns.map D.int) vs ↔ vs = ns.map V.int
  | [], vs => by simp [IsDs]
  | n :: ns, vs => by
    constructor
    · rintro ⟨v, r, e, h1, h2⟩
      have h3 : v = V.int n := h1
      rw [e, h3, IsDs.ints.mp h2]
      rfl
    · intro e
      exact ⟨.int n, ns.map V.int, e, rfl, IsDs.ints.mpr rfl⟩
theorem IsDs.strs : ∀ {ns : List Str} {vs : List V}, IsDs K G (ns.map D.str) vs ↔ vs = ns.map V.str
  | [], vs => by simp [IsDs]
  | n :: ns, vs => by
    constructor
    · rintro ⟨v, r, e, h1, h2⟩
      have h3 : v = V.str n := h1
      rw [e, h3, IsDs.strs.mp h2]
      rfl
    · intro e
      exact ⟨.str n, ns.map V.str, e, rfl, IsDs.strs.mpr rfl⟩
end

inductive MO where
  | lst (ds : List D) | dk (kds : List (Key × D)) | dt (kds : List (List Key × D)) | obj (n : Str) (fs : List (Str × D))
  /-- an own dict that is being walked -/
  | lck (u : Obj) (kvs : List (Key × V)) (kds : List (Key × D))
  /-- any other own thing, by what is true of it (at every later time) -/
  | oth (T : PySem.W.Frag → Hp → HO → Prop)
abbrev Wd := Addr → Option MO
def Wd.set (W : Wd) (l : Addr) (m : MO) : Wd := fun b => if b = l then some m else W b
def Wd.del (W : Wd) (l : Addr) : Wd := fun b => if b = l then none else W b
@[simp] theorem Wd.set_same (W : Wd) (l : Addr) (m : MO) : (W.set l m) l = some m := by simp [Wd.set]
theorem Wd.set_ne {W : Wd} {l b : Addr} {m : MO} (h : b ≠ l) : (W.set l m) b = W b := by simp [Wd.set, h]
@[simp] theorem Wd.set_set (W : Wd) (l : Addr) (m m' : MO) : (W.set l m).set l m' = W.set l m' := by
  funext b; simp only [Wd.set]; split <;> rfl
theorem Wd.set_comm {W : Wd} {l b : Addr} {m m' : MO} (h : l ≠ b) : (W.set l m).set b m' = (W.set b m').set l m := by
  funext c; simp only [Wd.set]; split
  · rename_i e; subst e; rw [if_neg (Ne.symm h)]
  · rfl
theorem Wd.del_set {W : Wd} {l : Addr} {m : MO} (h : W l = none) : (W.set l m).del l = W := by
  funext b; simp only [Wd.set, Wd.del]; split
  · rename_i e; rw [e, h]
  · rfl
theorem Wd.set_self {W : Wd} {l : Addr} {m : MO} (h : W l = some m) : W.set l m = W := by
  funext b; simp only [Wd.set]; split
  · rename_i e; rw [e, h]
  · rfl
section
variable (K : PySem.W.Frag) (G : Hp)
def IsMO : MO → HO → Prop
  | .lst ds, o => ∃ vs, o = .lst vs ∧ IsDs K G ds vs
  | .dk kds, o => ∃ kvs, o = .dK kvs ∧ IsKs K G kds kvs
  | .dt kds, o => ∃ kvs, o = .dT kvs ∧ IsTs K G kds kvs
  | .obj n fs, o => ∃ dx vs, o = .ins (He.ga K n) dx vs ∧ IsFs K G fs vs
  | .lck u kvs kds, o => o = .frz u (.dK kvs) ∧ IsKs K G kds kvs
  | .oth T, o => Mut (some o) ∧ ∀ G', SameL G G' → T K G' o
def dctO : HO → Bool
  | .dK _ => true
  | .dT _ => true
  | _ => false
/-- what stands for good is there (a dict may be walked at the moment) -/
def RdG (H : Hp) (b : Addr) (o : HO) : Prop := H b = some o ∨ ∃ u, H b = some (.frz u o) ∧ dctO o = true
structure Rel (H : Hp) (W : Wd) : Prop where
  st : ∀ b o, G b = some o → RdG H b o
  own : ∀ l m, W l = some m → G l = none ∧ ∃ o, H l = some o ∧ IsMO K G m o
/-- slots -/
abbrev Sl := List (Option D)
structure IsSl (δ : Sl) (σ : L2.St) : Prop where
  len : δ.length = σ.length
  get : ∀ (i : Nat) (d : D), δ[i]? = some (some d) → ∃ v, σ[i]? = some (some v) ∧ IsD K G d v
end
section
variable {K : PySem.W.Frag} {G G' H : Hp} {W : Wd}
theorem IsMO.upL (s : SameL G G') {m : MO} {o : HO} (h : IsMO K G m o) : IsMO K G' m o := by
  cases m with
  | lst ds => obtain ⟨vs, e, q⟩ := h; exact ⟨vs, e, IsDs.upL s _ _ q⟩
  | dk ds => obtain ⟨vs, e, q⟩ := h; exact ⟨vs, e, IsKs.upL s _ _ q⟩
  | dt ds => obtain ⟨vs, e, q⟩ := h; exact ⟨vs, e, IsTs.upL s _ _ q⟩
  | obj C fs => obtain ⟨dx, vs, e, q⟩ := h; exact ⟨dx, vs, e, IsFs.upL s _ _ q⟩
  | lck u kvs kds => obtain ⟨e, q⟩ := h; exact ⟨e, IsKs.upL s _ _ q⟩
  | oth T => exact ⟨h.1, fun G'' s' => h.2 G'' (s.trans s')⟩
theorem IsSl.upL {δ : Sl} {σ : L2.St} (s : SameL G G') (h : IsSl K G δ σ) : IsSl K G' δ σ :=
  ⟨h.len, fun i d e => let ⟨v, e2, q⟩ := h.get i d e; ⟨v, e2, IsD.upL s d v q⟩⟩
theorem IsFs.up (s : Same G G') {ds : List (Str × D)} {vs : List (Str × V)} (h : IsFs K G ds vs) : IsFs K G' ds vs := IsFs.upL s.l _ _ h
theorem IsMO.up (s : Same G G') {m : MO} {o : HO} (h : IsMO K G m o) : IsMO K G' m o := h.upL s.l
theorem IsSl.up {δ : Sl} {σ : L2.St} (s : Same G G') (h : IsSl K G δ σ) : IsSl K G' δ σ := h.upL s.l
theorem IsSl.set {δ : Sl} {σ : L2.St} {d : D} {v : V} (h : IsSl K G δ σ) (i : Nat) (q : IsD K G d v) : IsSl K G (δ.set i (some d)) (σ.set i (some v)) := by
  refine ⟨by rw [List.length_set, List.length_set, h.len], fun j e he => ?_⟩
  by_cases hj : i = j
  · subst hj
    by_cases hl : i < δ.length
    · rw [List.getElem?_set_self hl] at he
      have e1 : d = e := by simpa using he
      exact ⟨v, by rw [List.getElem?_set_self (h.len ▸ hl)], e1 ▸ q⟩
    · rw [List.getElem?_set, if_pos rfl, if_neg hl] at he
      cases he
  · rw [List.getElem?_set_ne hj] at he
    rw [List.getElem?_set_ne hj]
    exact h.get j e he
theorem rd_some {b : Addr} {o : HO} (h : RdG H b o) : H b ≠ none := by
  rcases h with h | ⟨u, h, _⟩ <;> rw [h] <;> exact fun z => nomatch z
theorem Rel.freeG (R : Rel K G H W) {p : Addr} (h : H p = none) : G p = none := by
  cases q : G p with
  | none => rfl
  | some o => exact absurd h (rd_some (R.st p o q))
theorem Rel.freeW (R : Rel K G H W) {p : Addr} (h : H p = none) : W p = none := by
  cases q : W p with
  | none => rfl
  | some m =>
    obtain ⟨_, o, e, _⟩ := R.own p m q
    rw [h] at e
    cases e
theorem rd_upd {b p : Addr} {o o' : HO} (h : RdG H b o) (hp : H p = none) : RdG (upd H p o') b o := by
  have ne : b ≠ p := fun e => rd_some h (e ▸ hp)
  rcases h with h | ⟨u, h, q⟩
  · exact .inl (by rw [upd_ne ne]; exact h)
  · exact .inr ⟨u, by rw [upd_ne ne]; exact h, q⟩
theorem RdG.rd {b : Addr} {o : HO} (h : RdG H b o) : Rd H b o := h.imp id fun ⟨u, e, _⟩ => ⟨u, e⟩
theorem RdG.eq {b : Addr} {o : HO} (h : RdG H b o) (d : dctO o = false) : H b = some o := by
  rcases h with h | ⟨u, _, q⟩
  · exact h
  · rw [d] at q
    cases q
theorem same_updG (h : G p = none) {o : HO} : Same G (upd G p o) := fun b x e => by
  rw [upd_ne (ne_of_none e h)]
  exact ⟨x, e, .inl rfl⟩
/-- a new object that stays as it is -/
theorem Rel.new (R : Rel K G H W) {p : Addr} {o : HO} (h : H p = none) : Same G (upd G p o) ∧ Rel K (upd G p o) (upd H p o) W := by
  have s := same_updG (R.freeG h) (o := o)
  refine ⟨s, ⟨fun b u e => ?_, fun l m e => ?_⟩⟩
  · by_cases hb : b = p
    · subst hb
      rw [upd_same] at e
      cases e
      exact .inl upd_same
    · rw [upd_ne hb] at e
      exact rd_upd (R.st b u e) h
  · obtain ⟨g, u, e1, q⟩ := R.own l m e
    have ne : l ≠ p := ne_of_none e1 h
    exact ⟨by rw [upd_ne ne]; exact g, u, by rw [upd_ne ne]; exact e1, q.up s⟩
/-- a new object that is owned -/
theorem Rel.newOwn (R : Rel K G H W) {p : Addr} {o : HO} {m : MO} (h : H p = none) (q : IsMO K G m o) : Rel K G (upd H p o) (W.set p m) := by
  refine ⟨fun b u e => rd_upd (R.st b u e) h, fun l m' e => ?_⟩
  by_cases hl : l = p
  · subst hl
    rw [Wd.set_same] at e
    cases e
    exact ⟨R.freeG h, o, upd_same, q⟩
  · rw [Wd.set_ne hl] at e
    obtain ⟨g, u, e1, q⟩ := R.own l m' e
    exact ⟨g, u, by rw [upd_ne hl]; exact e1, q⟩
/-- an owned object is written -/
theorem Rel.put (R : Rel K G H W) {p : Addr} {o : HO} {m m0 : MO} (h : W p = some m0) (q : IsMO K G m o) : Rel K G (upd H p o) (W.set p m) := by
  obtain ⟨gp, _⟩ := R.own p m0 h
  refine ⟨fun b u e => ?_, fun l m' e => ?_⟩
  · have ne : b ≠ p := fun z => by
      rw [z, gp] at e
      cases e
    rcases R.st b u e with h1 | ⟨w, h1, q1⟩
    · exact .inl (by rw [upd_ne ne]; exact h1)
    · exact .inr ⟨w, by rw [upd_ne ne]; exact h1, q1⟩
  · by_cases hl : l = p
    · subst hl
      rw [Wd.set_same] at e
      cases e
      exact ⟨gp, o, upd_same, q⟩
    · rw [Wd.set_ne hl] at e
      obtain ⟨g, u, e1, q⟩ := R.own l m' e
      exact ⟨g, u, by rw [upd_ne hl]; exact e1, q⟩
/-- an owned object is owned no more -/
theorem Rel.freeze (R : Rel K G H W) {p : Addr} {m : MO} (h : W p = some m) : ∃ o, H p = some o ∧ IsMO K G m o ∧ Same G (upd G p o) ∧ Rel K (upd G p o) H (W.del p) := by
  obtain ⟨gp, o, e, q⟩ := R.own p m h
  have s := same_updG gp (o := o)
  refine ⟨o, e, q, s, ⟨fun b u e1 => ?_, fun l m' e1 => ?_⟩⟩
  · by_cases hb : b = p
    · subst hb
      rw [upd_same] at e1
      cases e1
      exact .inl e
    · rw [upd_ne hb] at e1
      exact R.st b u e1
  · by_cases hl : l = p
    · subst hl
      simp [Wd.del] at e1
    · have e2 : W l = some m' := by simpa [Wd.del, hl] using e1
      obtain ⟨g, u, e3, q2⟩ := R.own l m' e2
      exact ⟨by rw [upd_ne hl]; exact g, u, e3, q2.up s⟩
theorem Rel.drop (R : Rel K G H W) (p : Addr) : Rel K G H (W.del p) :=
  ⟨R.st, fun l m e => R.own l m (by
    by_cases hl : l = p
    · subst hl; simp [Wd.del] at e
    · simpa [Wd.del, hl] using e)⟩
/-- a list, a tuple to be read -/
theorem FA.sq (R : Rel K G H W) {a : Addr} {vs : List V} (h : FA K G a vs) : SqL K H a vs := by
  rcases h with ⟨o, h⟩ | h
  · exact .inl (.inr ⟨o, (R.st _ _ h).eq rfl⟩)
  · rcases h with h | h
    · rcases h with h | ⟨_, h⟩ <;> cases h
    · exact .inr h
theorem Rel.fk (R : Rel K G H W) {a : Addr} {kvs : List (Key × V)} (h : FK G a kvs) : Rd H a (.dK kvs) := by
  obtain ⟨o, e, c⟩ := h
  have r := R.st _ _ e
  unfold dkC at c
  split at c
  · cases c; exact r.rd
  · rename_i u _
    cases c
    exact .inr ⟨u, r.eq rfl⟩
  · cases c
theorem Rel.ft (R : Rel K G H W) {a : Addr} {kvs : List (List Key × V)} (h : FT G a kvs) : Rd H a (.dT kvs) := by
  obtain ⟨o, e, c⟩ := h
  have r := R.st _ _ e
  unfold dtC at c
  split at c
  · cases c; exact r.rd
  · rename_i u _
    cases c
    exact .inr ⟨u, r.eq rfl⟩
  · cases c
theorem Rel.tup (R : Rel K G H W) {a : Addr} {vs : List V} (h : G a = some (.tup vs)) : H a = some (.tup vs) := (R.st _ _ h).eq rfl
theorem Rel.lst (R : Rel K G H W) {a : Addr} {vs : List V} (h : G a = some (.lst vs)) : H a = some (.lst vs) := (R.st _ _ h).eq rfl
end

mutual
def D.py : D → PyData
  | .non => .none
  | .bl b => .bool b
  | .int i => .int i
  | .str x => .str x
  | .tup ds => .tuple (D.pys ds)
  | .lst ds => .list (D.pys ds)
  | .flst ds => .list (D.pys ds)
  | _ => .dict []
def D.pys : List D → List PyData
  | [] => []
  | d :: ds => d.py :: D.pys ds
end
mutual
def D.plain : D → Bool
  | .non => true
  | .bl _ => true
  | .int _ => true
  | .str _ => true
  | .tup ds => D.plains ds
  | .lst ds => D.plains ds
  | .flst ds => D.plains ds
  | _ => false
def D.plains : List D → Bool
  | [] => true
  | d :: ds => d.plain && D.plains ds
end
def D.eqv (x y : D) : Bool := PyData.eqv x.py y.py
theorem D.plains_all : ∀ (ds : List D), D.plains ds = ds.all D.plain
  | [] => rfl
  | d :: ds => by rw [D.plains, List.all_cons, D.plains_all ds]
section
variable {K : PySem.W.Frag} {G H : Hp} {W : Wd}
mutual
theorem IsD.dp (R : Rel K G H W) : ∀ (d : D) (v : V), d.plain = true → IsD K G d v → Dp K H v d.py
  | .non, _, _, h => by cases h; exact .non
  | .bl b, _, _, h => by cases h; exact .bl b
  | .int i, _, _, h => by cases h; exact .int i
  | .str x, _, _, h => by cases h; exact .str x
  | .tup ds, _, p, h => by
    obtain ⟨a, vs, e, h1, h2⟩ := h
    subst e
    exact .tup (SqT.of (R.tup h1)) (IsDs.dp R ds vs p h2)
  | .lst ds, _, p, h => by
    obtain ⟨a, vs, e, h1, h2⟩ := h
    subst e
    exact .lst (SqL.of (R.lst h1)) (IsDs.dp R ds vs p h2)
  | .flst ds, _, p, h => by
    obtain ⟨a, vs, e, h1, h2⟩ := h
    subst e
    exact .lst (h1.sq R) (IsDs.dp R ds vs p h2)
  | .ty _, _, p, _ => by cases p
  | .ptr _, _, p, _ => by cases p
  | .dk _, _, p, _ => by cases p
  | .dt _, _, p, _ => by cases p
  | .fobj _ _, _, p, _ => by cases p
theorem IsDs.dp (R : Rel K G H W) : ∀ (ds : List D) (vs : List V), D.plains ds = true → IsDs K G ds vs → DpAll K H vs (D.pys ds)
  | [], _, _, h => by cases h; exact .nil
  | d :: ds, _, p, h => by
    obtain ⟨v, r, e, h1, h2⟩ := h
    subst e
    have p1 := Bool.and_eq_true_iff.mp p
    exact .cons (IsD.dp R d v p1.1 h1) (IsDs.dp R ds r p1.2 h2)
end
end
mutual
theorem D.plain_py : ∀ (d : D), d.plain = true → d.py.plain = true
  | .non, _ => by simp [D.py, PyData.plain]
  | .bl b, _ => by simp [D.py, PyData.plain]
  | .int i, _ => by simp [D.py, PyData.plain]
  | .str x, _ => by simp [D.py, PyData.plain]
  | .tup ds, p => by
    have h := D.plains_py ds p
    simp [D.py, PyData.plain, h]
  | .lst ds, p => by
    have h := D.plains_py ds p
    simp [D.py, PyData.plain, h]
  | .flst ds, p => by
    have h := D.plains_py ds p
    simp [D.py, PyData.plain, h]
  | .ty _, p => by cases p
  | .ptr _, p => by cases p
  | .dk _, p => by cases p
  | .dt _, p => by cases p
  | .fobj _ _, p => by cases p
theorem D.plains_py : ∀ (ds : List D), D.plains ds = true → PyData.plainAll (D.pys ds) = true
  | [], _ => by simp [D.pys, PyData.plainAll]
  | d :: ds, p => by
    have p1 := Bool.and_eq_true_iff.mp p
    have h1 := D.plain_py d p1.1
    have h2 := D.plains_py ds p1.2
    simp [D.pys, PyData.plainAll, h1, h2]
end
end DL

namespace DL
open PySem PySem.Spec PyProof.Rows L2

abbrev DQ := D → Wd → Prop
abbrev AE := Sl → Wd → DQ → Prop
abbrev AT := Sl → Wd → (Bool → Wd → Prop) → Prop
abbrev AA := Sl → Wd → (List D → Wd → Prop) → Prop
abbrev AO := Sl → Wd → (Option Int → Wd → Prop) → Prop
abbrev RD1 := D → Wd → DQ → Prop
abbrev RD2 := D → D → Wd → DQ → Prop
abbrev RDC := List D → Wd → DQ → Prop
section
variable (K : PySem.W.Frag) (G0 G : Hp)
def Kont (QD : DQ) (Q : VK) : Prop := ∀ v d G' H' W', Same G G' → Rel K G' H' W' → IsD K G' d v → QD d W' → Q v H'
def KontT (QD : Bool → Wd → Prop) (Q : Bool → Hp → Prop) : Prop := ∀ b G' H' W', Same G G' → Rel K G' H' W' → QD b W' → Q b H'
def KontA (QD : List D → Wd → Prop) (Q : List V → Hp → Prop) : Prop := ∀ vs ds G' H' W', Same G G' → Rel K G' H' W' → IsDs K G' ds vs → QD ds W' → Q vs H'
def KontO (QD : Option Int → Wd → Prop) (Q : Option Int → Hp → Prop) : Prop := ∀ o G' H' W', Same G G' → Rel K G' H' W' → QD o W' → Q o H'
def SimE (t : TE) (a : AE) : Prop := ∀ σ H Q G δ W QD, Same G0 G → Rel K G H W → IsSl K G δ σ → a δ W QD → Kont K G QD Q → t σ H Q
def SimT (t : TT) (a : AT) : Prop := ∀ σ H Q G δ W QD, Same G0 G → Rel K G H W → IsSl K G δ σ → a δ W QD → KontT K G QD Q → t σ H Q
def SimA (t : L2.TA) (a : AA) : Prop := ∀ σ H Q G δ W QD, Same G0 G → Rel K G H W → IsSl K G δ σ → a δ W QD → KontA K G QD Q → t σ H Q
def SimO (t : TO) (a : AO) : Prop := ∀ σ H Q G δ W QD, Same G0 G → Rel K G H W → IsSl K G δ σ → a δ W QD → KontO K G QD Q → t σ H Q
def SimR2 (r : R2) (a : RD2) : Prop := ∀ G H W x y dx dy Q QD, Rel K G H W → IsD K G dx x → IsD K G dy y → a dx dy W QD → Kont K G QD Q → r x y H Q
def SimRC (r : List V → Hp → VK → Prop) (a : RDC) : Prop := ∀ G H W xs ds Q QD, Rel K G H W → IsDs K G ds xs → a ds W QD → Kont K G QD Q → r xs H Q
end
structure DE (X : Cx) (G0 : Hp) (e : Expr) (t : TE) (a : AE) : Prop where
  pe : PE X e t
  sim : SimE X.K G0 t a
structure DT (X : Cx) (G0 : Hp) (e : Expr) (t : TT) (a : AT) : Prop where
  pt : PT X e t
  sim : SimT X.K G0 t a
structure DW (X : Cx) (G0 : Hp) (e : Expr) (t : TT) (a : AT) : Prop where
  pw : PW X e t
  sim : SimT X.K G0 t a
structure DA (X : Cx) (G0 : Hp) (es : List Expr) (t : L2.TA) (a : AA) : Prop where
  pa : PA X es t
  sim : SimA X.K G0 t a
structure DO (X : Cx) (G0 : Hp) (e : Option Expr) (t : TO) (a : AO) : Prop where
  po : PO X e t
  sim : SimO X.K G0 t a
section
variable {K : PySem.W.Frag} {G0 G G1 : Hp}
theorem Kont.up {QD : DQ} {Q : VK} (s : Same G G1) (h : Kont K G QD Q) : Kont K G1 QD Q := fun v d G' H' W' s' => h v d G' H' W' (s.trans s')
theorem Kont.here {QD : DQ} {Q : VK} {H : Hp} {W : Wd} {v : V} {d : D} (h : Kont K G QD Q) (R : Rel K G H W) (q : IsD K G d v) (k : QD d W) : Q v H := h v d G H W (Same.refl G) R q k
/-- a new object for good -/
theorem Kont.new {QD : DQ} {Q : VK} {H : Hp} {W : Wd} {d : D} {p : Addr} {o : HO} (h : Kont K G QD Q) (R : Rel K G H W) (hp : H p = none) (q : IsD K (upd G p o) d (.ref p)) (k : QD d W) : Q (.ref p) (upd H p o) :=
  let ⟨s, R'⟩ := R.new hp
  h _ _ _ _ _ s R' q k
end

def lstOf (W : Wd) : D → Option (List D)
  | .lst ds => some ds
  | .ptr l => match W l with
    | some (.lst ds) => some ds
    | _ => none
  | _ => none
@[simp] theorem lstOf_lst (W : Wd) (ds : List D) : lstOf W (.lst ds) = some ds := rfl
/-- a list that is read: a foreign one too -/
def lstRd (W : Wd) : D → Option (List D)
  | .flst ds => some ds
  | d => lstOf W d
@[simp] theorem lstRd_lst (W : Wd) (ds : List D) : lstRd W (.lst ds) = some ds := rfl
@[simp] theorem lstRd_flst (W : Wd) (ds : List D) : lstRd W (.flst ds) = some ds := rfl
theorem lstRd_ptr {W : Wd} {l : Addr} {ds : List D} (h : W l = some (.lst ds)) : lstRd W (.ptr l) = some ds := by simp [lstRd, lstOf, h]
section
variable {K : PySem.W.Frag} {G H : Hp} {W : Wd}
theorem lstOf_at (R : Rel K G H W) {d : D} {v : V} {ds : List D} (h : IsD K G d v) (e : lstOf W d = some ds) : ∃ a vs, v = .ref a ∧ H a = some (.lst vs) ∧ IsDs K G ds vs := by
  unfold lstOf at e
  split at e
  · cases e
    obtain ⟨a, vs, e1, e2, e3⟩ := h
    exact ⟨a, vs, e1, R.lst e2, e3⟩
  · rename_i l
    split at e
    · rename_i hw
      cases e
      obtain ⟨_, o, e1, vs, e2, e3⟩ := R.own _ _ hw
      subst e2
      have e4 : v = .ref l := h
      exact ⟨l, vs, e4, e1, e3⟩
    · cases e
  · cases e
theorem lstRd_at (R : Rel K G H W) {d : D} {v : V} {ds : List D} (h : IsD K G d v) (e : lstRd W d = some ds) : ∃ a vs, v = .ref a ∧ SqL K H a vs ∧ IsDs K G ds vs := by
  unfold lstRd at e
  split at e
  · cases e
    obtain ⟨a, vs, e1, e2, e3⟩ := h
    exact ⟨a, vs, e1, e2.sq R, e3⟩
  · obtain ⟨a, vs, e1, e2, e3⟩ := lstOf_at R h e
    exact ⟨a, vs, e1, SqL.of e2, e3⟩
end
/-- a new list: for good, or owned -/
def newL (own : Bool) (ds : List D) (W : Wd) (Q : DQ) : Prop := if own = true then ∀ p, W p = none → Q (.ptr p) (W.set p (.lst ds)) else Q (.lst ds) W
@[simp] theorem newL_f (ds : List D) (W : Wd) (Q : DQ) : newL false ds W Q = Q (.lst ds) W := by simp [newL]
@[simp] theorem newL_t (ds : List D) (W : Wd) (Q : DQ) : newL true ds W Q = ∀ p, W p = none → Q (.ptr p) (W.set p (.lst ds)) := by simp [newL]
section
variable {K : PySem.W.Frag} {G H : Hp} {W : Wd}
theorem newL.go {own : Bool} {ds : List D} {vs : List V} {QD : DQ} {Q : VK} (R : Rel K G H W) (q : IsDs K G ds vs) (h : newL own ds W QD) (k : Kont K G QD Q) (p : Addr) (hp : H p = none) : Q (.ref p) (upd H p (.lst vs)) := by
  cases own with
  | true =>
    rw [newL_t] at h
    exact k _ (.ptr p) G _ _ (Same.refl G) (R.newOwn (m := .lst ds) hp ⟨vs, rfl, q⟩) rfl (h p (R.freeW hp))
  | false =>
    rw [newL_f] at h
    exact k.new (d := .lst ds) R hp ⟨p, vs, rfl, upd_same, IsDs.up (same_updG (R.freeG hp)) _ _ q⟩ h
end

section
variable {X : Cx} {G0 : Hp}
def aVar (i : Nat) : AE := fun δ W Q => ∃ d, δ[i]? = some (some d) ∧ Q d W
/-- an owned list is read for good -/
def frzD : MO → Option D
  | .lst ds => some (.lst ds)
  | .dk ds => some (.dk ds)
  | .dt ds => some (.dt ds)
  | .obj n fs => some (.fobj n fs)
  | .lck _ _ _ => none
  | .oth _ => none
theorem frz_at {K : PySem.W.Frag} {G H : Hp} {W : Wd} (R : Rel K G H W) {l : Addr} {m : MO} {d : D} (e : W l = some m) (f : frzD m = some d) : ∃ G', Same G G' ∧ Rel K G' H (W.del l) ∧ IsD K G' d (.ref l) := by
  obtain ⟨o, _, q, s, R2⟩ := R.freeze e
  refine ⟨_, s, R2, ?_⟩
  cases m with
  | lst ds => obtain ⟨vs, rfl, q⟩ := q; cases f; exact ⟨l, vs, rfl, upd_same, IsDs.up s _ _ q⟩
  | dk ds => obtain ⟨vs, rfl, q⟩ := q; cases f; exact ⟨l, vs, rfl, ⟨_, upd_same, rfl⟩, IsKs.up s _ _ q⟩
  | dt ds => obtain ⟨vs, rfl, q⟩ := q; cases f; exact ⟨l, vs, rfl, ⟨_, upd_same, rfl⟩, IsTs.up s _ _ q⟩
  | obj n fs => obtain ⟨dx, vs, rfl, q⟩ := q; cases f; exact ⟨l, dx, vs, rfl, upd_same, IsFs.up s q⟩
  | lck u kvs kds => cases f
  | oth T => cases f
def aVarF (i : Nat) : AE := fun δ W Q => ∃ l m d, δ[i]? = some (some (.ptr l)) ∧ W l = some m ∧ frzD m = some d ∧ Q d (W.del l)
def aC (d : D) : AE := fun _ W Q => Q d W
theorem de_of {e : Expr} {i : Nat} (h : PE X e (tVar i)) : DE X G0 e (tVar i) (aVar i) := ⟨h, fun σ H Q G δ W QD s0 R S h k => by
  obtain ⟨d, e, q⟩ := h
  obtain ⟨v, e2, q2⟩ := S.get i d e
  exact ⟨v, e2, k.here R q2 q⟩⟩
theorem dv (i : Nat) {x : Str} {pos : Pos} (hN : X.N[i]? = some x := by rfl) (hv : Vis X.env.scope x := by first | exact Or.inl rfl | exact Or.inr (Or.inl rfl) | exact Or.inr (Or.inr rfl)) (hd : (x == ("__debug__" : Str)) = false := by decide)
    (hcd : (x == ("__classdict__" : Str)) = false := by decide) : DE X G0 (.Name x pos) (tVar i) (aVar i) := de_of (pe_var hN hv hd hcd)
theorem dvF (i : Nat) {x : Str} {pos : Pos} (hN : X.N[i]? = some x := by rfl) (hv : Vis X.env.scope x := by first | exact Or.inl rfl | exact Or.inr (Or.inl rfl) | exact Or.inr (Or.inr rfl)) (hd : (x == ("__debug__" : Str)) = false := by decide)
    (hcd : (x == ("__classdict__" : Str)) = false := by decide) : DE X G0 (.Name x pos) (tVar i) (aVarF i) := ⟨pe_var hN hv hd hcd, fun σ H Q G δ W QD s0 R S h k => by
  obtain ⟨l, m, d, e, e2, f, q⟩ := h
  obtain ⟨v, e3, q3⟩ := S.get i _ e
  obtain ⟨G', s, R2, q5⟩ := frz_at R e2 f
  cases (show v = .ref l from q3)
  exact ⟨_, e3, k _ d _ _ _ s R2 q5 q⟩⟩
theorem sim_c {K : PySem.W.Frag} {v : V} {d : D} (hd : ∀ G, IsD K G d v) : SimE K G0 (tC v) (aC d) := fun σ H Q G δ W QD s0 R S h k => k.here R (hd G) h
theorem de_int {i j pos} : DE X G0 (.Constant (.int i) j pos) (tC (.int i)) (aC (.int i)) := ⟨pe_int, sim_c fun _ => rfl⟩
theorem de_bl {b j pos} : DE X G0 (.Constant (.bool b) j pos) (tC (.bl b)) (aC (.bl b)) := ⟨pe_bl, sim_c fun _ => rfl⟩
theorem de_non {j pos} : DE X G0 (.Constant .none j pos) (tC .non) (aC .non) := ⟨pe_non, sim_c fun _ => rfl⟩
theorem de_str {x j pos} : DE X G0 (.Constant (.str x) j pos) (tC (.str x)) (aC (.str x)) := ⟨pe_str, sim_c fun _ => rfl⟩
theorem de_gint {x : Str} {i : Int} {pos : Pos} (hg : Gl X x) (hm : ∃ t, X.mg x = some (.int i t)) (hd : (x == ("__debug__" : Str)) = false := by decide) : DE X G0 (.Name x pos) (tC (.int i)) (aC (.int i)) := by
  obtain ⟨t, hm⟩ := hm
  exact ⟨pe_glob hg hm ⟨t, rfl⟩ hd, sim_c fun _ => rfl⟩
theorem de_gstr {x z : Str} {pos : Pos} (hg : Gl X x) (hm : ∃ t, X.mg x = some (.str z t)) (hd : (x == ("__debug__" : Str)) = false := by decide) : DE X G0 (.Name x pos) (tC (.str z)) (aC (.str z)) := by
  obtain ⟨t, hm⟩ := hm
  exact ⟨pe_glob hg hm ⟨t, rfl⟩ hd, sim_c fun _ => rfl⟩
/-- a built-in class as a value -/
theorem de_bty {x : Str} {n : String} {pos : Pos} (hg : Gl X x) (hm : X.mg x = none) (hv : bootBuiltins x = some (.type n)) (hn : x ≠ "__name__" := by decide) (hd : (x == ("__debug__" : Str)) = false := by decide) : DE X G0 (.Name x pos) (tC (.ty n)) (aC (.ty n)) :=
  ⟨pe_bltn hg hm hv rfl hn hd, sim_c fun _ => rfl⟩

def aOp (r : RD2) (a b : AE) : AE := fun δ W Q => a δ W fun x W1 => b δ W1 fun y W2 => r x y W2 Q
def aUn (r : RD1) (a : AE) : AE := fun δ W Q => a δ W fun x W1 => r x W1 Q
theorem sim_op {K : PySem.W.Frag} {r : R2} {rd : RD2} {ta tb : TE} {aa ab : AE} (hr : SimR2 K r rd) (ha : SimE K G0 ta aa) (hb : SimE K G0 tb ab) : SimE K G0 (tOp r ta tb) (aOp rd aa ab) := fun σ H Q G δ W QD s0 R S h k => by
  refine ha σ H _ G δ W _ s0 R S h fun x dx G1 H1 W1 s1 R1 d1 h1 => ?_
  refine hb σ H1 _ G1 δ W1 _ (s0.trans s1) R1 (S.up s1) h1 fun y dy G2 H2 W2 s2 R2 d2 h2 => ?_
  exact hr G2 H2 W2 x y dx dy Q QD R2 (IsD.up s2 _ _ d1) d2 h2 (k.up (s1.trans s2))
variable {a b c : Expr} {ta tb tc : TE} {aa ab ac : AE} {pos : Pos}
theorem de_op {op : Operator} {r : R2} {rd : RD2} (ho : OpR X (binaryOp op) r) (hr : SimR2 X.K r rd) (ha : DE X G0 a ta aa) (hb : DE X G0 b tb ab) : DE X G0 (.BinOp a op b pos) (tOp r ta tb) (aOp rd aa ab) := ⟨pe_op ho ha.pe hb.pe, sim_op hr ha.sim hb.sim⟩
theorem de_cmp {op : CmpOp} {r : R2} {rd : RD2} (ho : OpR X (compareOp op) r) (hr : SimR2 X.K r rd) (ha : DE X G0 a ta aa) (hb : DE X G0 b tb ab) (hm : behindInMarks op b = false) : DE X G0 (.Compare a [op] [b] pos) (tOp r ta tb) (aOp rd aa ab) := ⟨pe_cmpR ho ha.pe hb.pe hm, sim_op hr ha.sim hb.sim⟩
/-- as a test -/
def aTest (a : AE) : AT := fun δ W Q => a δ W fun x W1 => ∃ k, x = .bl k ∧ Q k W1
theorem sim_test {K : PySem.W.Frag} (ha : SimE K G0 ta aa) : SimT K G0 (tTest ta) (aTest aa) := fun σ H Q G δ W QD s0 R S h k => by
  refine ha σ H _ G δ W _ s0 R S h fun x dx G1 H1 W1 s1 R1 d1 h1 => ?_
  obtain ⟨b, e, q⟩ := h1
  subst e
  exact ⟨b, d1, k b G1 H1 W1 s1 R1 q⟩
theorem dt_cmp {op : CmpOp} {r : R2} {rd : RD2} (ho : OpR X (compareOp op) r) (hr : SimR2 X.K r rd) (ha : DE X G0 a ta aa) (hb : DE X G0 b tb ab) (hm : behindInMarks op b = false) : DT X G0 (.Compare a [op] [b] pos) (tTest (tOp r ta tb)) (aTest (aOp rd aa ab)) := ⟨pt_cmpR ho ha.pe hb.pe hm, sim_test (sim_op hr ha.sim hb.sim)⟩
theorem dt_val {e : Expr} {t : TE} {a' : AE} (h : DE X G0 e t a') (he : ∀ whole, isTrue e X.env whole = (do let v ← whole; standAt e.pos; holding [v] (truthy v)) := by intro _; rfl) : DT X G0 e (tB t) (aTest a') := ⟨pt_val h.pe he, sim_test h.sim⟩
/-- a < b < c -/
def aChain (r r' : RD2) (a b c : AE) : AE := fun δ W Q => a δ W fun x W1 => b δ W1 fun y W2 => r x y W2 fun z W3 => ∃ k, z = .bl k ∧ (if k = true then c δ W3 fun u W4 => r' y u W4 Q else Q (.bl false) W3)
theorem sim_chain {K : PySem.W.Frag} {r r' : R2} {rd rd' : RD2} (hr : SimR2 K r rd) (hr' : SimR2 K r' rd') (ha : SimE K G0 ta aa) (hb : SimE K G0 tb ab) (hc : SimE K G0 tc ac) : SimE K G0 (tChain r r' ta tb tc) (aChain rd rd' aa ab ac) := fun σ H Q G δ W QD s0 R S h k => by
  refine ha σ H _ G δ W _ s0 R S h fun x dx G1 H1 W1 s1 R1 d1 h1 => ?_
  refine hb σ H1 _ G1 δ W1 _ (s0.trans s1) R1 (S.up s1) h1 fun y dy G2 H2 W2 s2 R2 d2 h2 => ?_
  refine hr G2 H2 W2 x y dx dy _ _ R2 (IsD.up s2 _ _ d1) d2 h2 fun z dz G3 H3 W3 s3 R3 d3 h3 => ?_
  obtain ⟨b, e, q⟩ := h3
  subst e
  refine ⟨b, d3, ?_⟩
  cases b with
  | false => exact (k.up (s1.trans (s2.trans s3))).here (d := .bl false) R3 rfl (by simpa using q)
  | true =>
    rw [if_pos rfl] at q ⊢
    refine hc σ H3 _ G3 δ W3 _ (s0.trans (s1.trans (s2.trans s3))) R3 (S.up (s1.trans (s2.trans s3))) q fun u du G4 H4 W4 s4 R4 d4 h4 => ?_
    exact hr' G4 H4 W4 y u dy du Q QD R4 (IsD.up (s3.trans s4) _ _ d2) d4 h4 (k.up (s1.trans (s2.trans (s3.trans s4))))
theorem de_chain {op op' : CmpOp} {r r' : R2} {rd rd' : RD2} (ho : OpR X (compareOp op) r) (ho' : OpR X (compareOp op') r') (hr : SimR2 X.K r rd) (hr' : SimR2 X.K r' rd') (ha : DE X G0 a ta aa) (hb : DE X G0 b tb ab) (hc : DE X G0 c tc ac) (hm : lastMarks [op, op'] [b, c] = false := by with_unfolding_all rfl) : DE X G0 (.Compare a [op, op'] [b, c] pos) (tChain r r' ta tb tc) (aChain rd rd' aa ab ac) :=
  ⟨pe_chain ho ho' ha.pe hb.pe hc.pe hm, sim_chain hr hr' ha.sim hb.sim hc.sim⟩
theorem dt_chain {op op' : CmpOp} {r r' : R2} {rd rd' : RD2} (ho : OpR X (compareOp op) r) (ho' : OpR X (compareOp op') r') (hr : SimR2 X.K r rd) (hr' : SimR2 X.K r' rd') (ha : DE X G0 a ta aa) (hb : DE X G0 b tb ab) (hc : DE X G0 c tc ac) (hm : lastMarks [op, op'] [b, c] = false := by with_unfolding_all rfl) : DT X G0 (.Compare a [op, op'] [b, c] pos) (tTest (tChain r r' ta tb tc)) (aTest (aChain rd rd' aa ab ac)) :=
  ⟨pt_chain ho ho' ha.pe hb.pe hc.pe hm, sim_test (sim_chain hr hr' ha.sim hb.sim hc.sim)⟩

variable {tA tB' : TT} {aA aB : AT} {rest : List Expr}
def aAnd (t u : AT) : AT := fun δ W Q => t δ W fun c W1 => if c = true then u δ W1 Q else Q false W1
def aOr (t u : AT) : AT := fun δ W Q => t δ W fun c W1 => if c = true then Q true W1 else u δ W1 Q
def aNot (t : AT) : AT := fun δ W Q => t δ W fun c W1 => Q (!c) W1
def aIf (t : AT) (a b : AE) : AE := fun δ W Q => t δ W fun c W1 => if c = true then a δ W1 Q else b δ W1 Q
def aAndV (a b : AE) : AE := fun δ W Q => a δ W fun x W1 => ∃ c, x = .bl c ∧ if c = true then b δ W1 Q else Q (.bl false) W1
def aOrV (a b : AE) : AE := fun δ W Q => a δ W fun x W1 => ∃ c, x = .bl c ∧ if c = true then Q (.bl true) W1 else b δ W1 Q
def aNotV (a : AE) : AE := fun δ W Q => a δ W fun x W1 => ∃ c, x = .bl c ∧ Q (.bl (!c)) W1
theorem sim_and {K : PySem.W.Frag} (ha : SimT K G0 tA aA) (hb : SimT K G0 tB' aB) : SimT K G0 (tAnd tA tB') (aAnd aA aB) := fun σ H Q G δ W QD s0 R S h k => by
  refine ha σ H _ G δ W _ s0 R S h fun c G1 H1 W1 s1 R1 h1 => ?_
  cases c with
  | true => exact iteT (hb σ H1 _ G1 δ W1 _ (s0.trans s1) R1 (S.up s1) (by simpa using h1) fun c2 G2 H2 W2 s2 R2 h2 => k c2 G2 H2 W2 (s1.trans s2) R2 h2)
  | false => exact iteF (k false G1 H1 W1 s1 R1 (by simpa using h1))
theorem sim_or {K : PySem.W.Frag} (ha : SimT K G0 tA aA) (hb : SimT K G0 tB' aB) : SimT K G0 (tOr tA tB') (aOr aA aB) := fun σ H Q G δ W QD s0 R S h k => by
  refine ha σ H _ G δ W _ s0 R S h fun c G1 H1 W1 s1 R1 h1 => ?_
  cases c with
  | false => exact iteF (hb σ H1 _ G1 δ W1 _ (s0.trans s1) R1 (S.up s1) (by simpa using h1) fun c2 G2 H2 W2 s2 R2 h2 => k c2 G2 H2 W2 (s1.trans s2) R2 h2)
  | true => exact iteT (k true G1 H1 W1 s1 R1 (by simpa using h1))
theorem sim_not {K : PySem.W.Frag} (ha : SimT K G0 tA aA) : SimT K G0 (tNot tA) (aNot aA) := fun σ H Q G δ W QD s0 R S h k =>
  ha σ H _ G δ W _ s0 R S h fun c G1 H1 W1 s1 R1 h1 => k (!c) G1 H1 W1 s1 R1 h1
theorem sim_andV {K : PySem.W.Frag} (ha : SimE K G0 ta aa) (hb : SimE K G0 tb ab) : SimE K G0 (tAndV ta tb) (aAndV aa ab) := fun σ H Q G δ W QD s0 R S h k => by
  refine ha σ H _ G δ W _ s0 R S h fun x dx G1 H1 W1 s1 R1 d1 h1 => ?_
  obtain ⟨c, e, q⟩ := h1
  subst e
  refine ⟨c, d1, ?_⟩
  cases c with
  | true => exact iteT (hb σ H1 _ G1 δ W1 _ (s0.trans s1) R1 (S.up s1) (by simpa using q) (k.up s1))
  | false => exact iteF ((k.up s1).here (d := .bl false) R1 rfl (by simpa using q))
theorem DW.dt {e : Expr} (h : DW X G0 e tA aA) : DT X G0 e tA aA := ⟨h.pw.pt, h.sim⟩
theorem dw_and1 (ha : DT X G0 a tA aA) : DW X G0 (.BoolOp .And [a] pos) tA aA := ⟨pw_and1 ha.pt, ha.sim⟩
theorem dw_or1 (ha : DT X G0 a tA aA) : DW X G0 (.BoolOp .Or [a] pos) tA aA := ⟨pw_or1 ha.pt, ha.sim⟩
theorem dw_and (ha : DT X G0 a tA aA) (hb : DW X G0 (.BoolOp .And (b :: rest) pos) tB' aB) : DW X G0 (.BoolOp .And (a :: b :: rest) pos) (tAnd tA tB') (aAnd aA aB) := ⟨pw_and ha.pt hb.pw, sim_and ha.sim hb.sim⟩
theorem dw_or (ha : DT X G0 a tA aA) (hb : DW X G0 (.BoolOp .Or (b :: rest) pos) tB' aB) : DW X G0 (.BoolOp .Or (a :: b :: rest) pos) (tOr tA tB') (aOr aA aB) := ⟨pw_or ha.pt hb.pw, sim_or ha.sim hb.sim⟩
theorem dt_not (ha : DT X G0 a tA aA) : DT X G0 (.UnaryOp .Not a pos) (tNot tA) (aNot aA) := ⟨pt_not ha.pt, sim_not ha.sim⟩
theorem de_one {op} {t : TE} {a' : AE} (h : DE X G0 a t a') : DE X G0 (.BoolOp op [a] pos) t a' := ⟨pe_one h.pe, h.sim⟩
theorem de_and (ha : DE X G0 a ta aa) (hb : DE X G0 (.BoolOp .And (b :: rest) pos) tb ab) : DE X G0 (.BoolOp .And (a :: b :: rest) pos) (tAndV ta tb) (aAndV aa ab) := ⟨pe_and ha.pe hb.pe, sim_andV ha.sim hb.sim⟩
variable {e : Expr} {es : List Expr} {te : TE} {ae : AE} {t : L2.TA} {at' : AA}
def aNil : AA := fun _ W Q => Q [] W
def aCons (a : AE) (r : AA) : AA := fun δ W Q => a δ W fun x W1 => r δ W1 fun xs W2 => Q (x :: xs) W2
theorem sim_nil {K : PySem.W.Frag} : SimA K G0 tNil aNil := fun σ H Q G δ W QD s0 R S h k => k [] [] G H W (Same.refl G) R rfl h
theorem sim_cons {K : PySem.W.Frag} (ha : SimE K G0 te ae) (hr : SimA K G0 t at') : SimA K G0 (tCons te t) (aCons ae at') := fun σ H Q G δ W QD s0 R S h k => by
  refine ha σ H _ G δ W _ s0 R S h fun x dx G1 H1 W1 s1 R1 d1 h1 => ?_
  refine hr σ H1 _ G1 δ W1 _ (s0.trans s1) R1 (S.up s1) h1 fun xs ds G2 H2 W2 s2 R2 d2 h2 => ?_
  exact k _ (dx :: ds) G2 H2 W2 (s1.trans s2) R2 ⟨x, xs, rfl, IsD.up s2 _ _ d1, d2⟩ h2
theorem da_nil : DA X G0 [] tNil aNil := ⟨pa_nil, sim_nil⟩
theorem da_cons (ha : DE X G0 e te ae) (hr : DA X G0 es t at') (hs : starEach (e :: es) X.env = (false, eval e X.env) :: starEach es X.env := by rfl) : DA X G0 (e :: es) (tCons te t) (aCons ae at') := ⟨pa_cons ha.pe hr.pa hs, sim_cons ha.sim hr.sim⟩
def aTup (t : AA) : AE := fun δ W Q => t δ W fun ds W1 => ds.length ≤ sizeLine ∧ Q (.tup ds) W1
def aLst (own : Bool) (t : AA) : AE := fun δ W Q => t δ W fun ds W1 => ds.length ≤ sizeLine ∧ newL own ds W1 Q
theorem sim_tup {K : PySem.W.Frag} (h : SimA K G0 t at') : SimE K G0 (tTup t) (aTup at') := fun σ H Q G δ W QD s0 R S q k => by
  refine h σ H _ G δ W _ s0 R S q fun vs ds G1 H1 W1 s1 R1 d1 h1 => ?_
  refine ⟨by rw [← d1.length]; exact h1.1, fun p hp => ?_⟩
  exact (k.up s1).new (d := .tup ds) R1 hp ⟨p, vs, rfl, upd_same, IsDs.up (same_updG (R1.freeG hp)) _ _ d1⟩ h1.2
theorem sim_lst {K : PySem.W.Frag} {own : Bool} (h : SimA K G0 t at') : SimE K G0 (tLst t) (aLst own at') := fun σ H Q G δ W QD s0 R S q k => by
  refine h σ H _ G δ W _ s0 R S q fun vs ds G1 H1 W1 s1 R1 d1 h1 => ?_
  exact ⟨by rw [← d1.length]; exact h1.1, fun p hp => newL.go R1 d1 h1.2 (k.up s1) p hp⟩
theorem de_tup {x1} (h : DA X G0 es t at') : DE X G0 (.Tuple es x1 pos) (tTup t) (aTup at') := ⟨pe_tup h.pa, sim_tup h.sim⟩
theorem de_lst (own : Bool) (h : DA X G0 es t at') : DE X G0 (.List es pos) (tLst t) (aLst own at') := ⟨pe_lst h.pa, sim_lst h.sim⟩

theorem de_ix {r : R2} {rd : RD2} (ho : IxR X r) (hr : SimR2 X.K r rd) (ha : DE X G0 a ta aa) (hb : DE X G0 b tb ab) (hs : PlainIx b := by exact fun _ _ => rfl) : DE X G0 (.Subscript a b pos) (tOp r ta tb) (aOp rd aa ab) := ⟨pe_ix ho ha.pe hb.pe hs, sim_op hr ha.sim hb.sim⟩
def aNoPart : AO := fun _ W Q => Q none W
def aPart (a : AE) : AO := fun δ W Q => a δ W fun x W1 => ∃ i, x = .int i ∧ Q (some i) W1
def aSl (r : D → Option Int → Option Int → Wd → DQ → Prop) (a : AE) (l u : AO) : AE := fun δ W Q => a δ W fun x W1 => l δ W1 fun lo W2 => u δ W2 fun hi W3 => r x lo hi W3 Q
theorem do_none : DO X G0 none tNoPart aNoPart := ⟨po_none, fun σ H Q G δ W QD s0 R S h k => k none G H W (Same.refl G) R h⟩
theorem do_some (h : DE X G0 e te ae) : DO X G0 (some e) (tPart te) (aPart ae) := ⟨po_some h.pe, fun σ H Q G δ W QD s0 R S q k => by
  refine h.sim σ H _ G δ W _ s0 R S q fun x dx G1 H1 W1 s1 R1 d1 h1 => ?_
  obtain ⟨i, e, q⟩ := h1
  subst e
  exact ⟨i, d1, k (some i) G1 H1 W1 s1 R1 q⟩⟩
def SimSl (K : PySem.W.Frag) (r : V → Option Int → Option Int → Hp → VK → Prop) (a : D → Option Int → Option Int → Wd → DQ → Prop) : Prop := ∀ G H W x dx lo hi Q QD, Rel K G H W → IsD K G dx x → a dx lo hi W QD → Kont K G QD Q → r x lo hi H Q
theorem de_slice {lo hi : Option Expr} {tl th : TO} {al ah : AO} {p2 : Pos} {r : V → Option Int → Option Int → Hp → VK → Prop} {rd : D → Option Int → Option Int → Wd → DQ → Prop} (ho : SlR X r) (hr : SimSl X.K r rd) (he : DE X G0 e te ae) (hl : DO X G0 lo tl al) (hu : DO X G0 hi th ah) :
    DE X G0 (.Subscript e (.Slice lo hi none p2) pos) (tSl r te tl th) (aSl rd ae al ah) := ⟨pe_slice ho he.pe hl.po hu.po, fun σ H Q G δ W QD s0 R S h k => by
  refine he.sim σ H _ G δ W _ s0 R S h fun x dx G1 H1 W1 s1 R1 d1 h1 => ?_
  refine hl.sim σ H1 _ G1 δ W1 _ (s0.trans s1) R1 (S.up s1) h1 fun l G2 H2 W2 s2 R2 h2 => ?_
  refine hu.sim σ H2 _ G2 δ W2 _ (s0.trans (s1.trans s2)) R2 (S.up (s1.trans s2)) h2 fun u G3 H3 W3 s3 R3 h3 => ?_
  exact hr G3 H3 W3 x dx l u Q QD R3 (IsD.up (s2.trans s3) _ _ d1) h3 (k.up (s1.trans (s2.trans s3)))⟩
end
end DL

namespace DL
open PySem PySem.Spec PyProof.Rows L2

def dI0 (g : Int → Int → D) : RD2 := fun x y W Q => ∃ i j, x = .int i ∧ y = .int j ∧ Q (g i j) W
def dIC (C : Int → Int → Prop) (g : Int → Int → D) : RD2 := fun x y W Q => ∃ i j, x = .int i ∧ y = .int j ∧ C i j ∧ Q (g i j) W
def dU (g : Int → D) : RD1 := fun x W Q => ∃ i, x = .int i ∧ Q (g i) W
section
variable {K : PySem.W.Frag}
theorem sr_i0 {f : Int → Int → Int} : SimR2 K (rI0 fun i j => .int (f i j)) (dI0 fun i j => .int (f i j)) := fun G H W x y dx dy Q QD R hx hy h k => by
  obtain ⟨i, j, rfl, rfl, q⟩ := h
  exact ⟨i, j, hx, hy, k.here (d := .int _) R rfl q⟩
theorem sr_b0 {f : Int → Int → Bool} : SimR2 K (rI0 fun i j => .bl (f i j)) (dI0 fun i j => .bl (f i j)) := fun G H W x y dx dy Q QD R hx hy h k => by
  obtain ⟨i, j, rfl, rfl, q⟩ := h
  exact ⟨i, j, hx, hy, k.here (d := .bl _) R rfl q⟩
theorem sr_iC {C : Int → Int → Prop} {f : Int → Int → Int} : SimR2 K (rI C fun i j => .int (f i j)) (dIC C fun i j => .int (f i j)) := fun G H W x y dx dy Q QD R hx hy h k => by
  obtain ⟨i, j, rfl, rfl, c, q⟩ := h
  exact ⟨i, j, hx, hy, c, k.here (d := .int _) R rfl q⟩
end
/-- the items of xs[lo:hi] -/
def cutD (xs : List D) (lo hi : Option Int) : List D := (xs.drop (HT.sIx xs.length 0 lo)).take (HT.sIx xs.length xs.length hi - HT.sIx xs.length 0 lo)
theorem IsDs.cut {K : PySem.W.Frag} {G : Hp} {ds : List D} {vs : List V} (h : IsDs K G ds vs) (lo hi : Option Int) : IsDs K G (cutD ds lo hi) (cutV vs lo hi) := by
  unfold cutD cutV
  rw [h.length]
  exact (h.drop _).take _

def dAdd (own : Bool) : RD2 := fun x y W Q => match x with
  | .int i => ∃ j, y = .int j ∧ Q (.int (i + j)) W
  | .str i => ∃ j, y = .str j ∧ i.length + j.length ≤ sizeLine ∧ Q (.str (i ++ j)) W
  | .tup ds => ∃ es, y = .tup es ∧ ds.length + es.length ≤ sizeLine ∧ Q (.tup (ds ++ es)) W
  | x => ∃ ds es, lstOf W x = some ds ∧ lstOf W y = some es ∧ ds.length + es.length ≤ sizeLine ∧ newL own (ds ++ es) W Q
def rAddA (K : PySem.W.Frag) : R2 := fun x y H Q => (rI0 fun i j => .int (i + j)) x y H Q ∨ (∃ i j, x = .str i ∧ y = .str j ∧ i.length + j.length ≤ sizeLine ∧ Q (.str (i ++ j)) H) ∨ rCatA K x y H Q ∨ rCat x y H Q
section
variable {X : Cx}
theorem op_addA : OpR X (binaryOp .Add) (rAddA X.K) := op_add.or (op_add_str.or (op_catA.or op_cat))
end
section
variable {K : PySem.W.Frag}
theorem cat_lists {G H : Hp} {W : Wd} {x y : V} {dx dy : D} {ds es : List D} {own : Bool} {Q : VK} {QD : DQ} (R : Rel K G H W) (hx : IsD K G dx x) (hy : IsD K G dy y) (e1 : lstOf W dx = some ds) (e2 : lstOf W dy = some es) (z : ds.length + es.length ≤ sizeLine) (q : newL own (ds ++ es) W QD) (k : Kont K G QD Q) : rCat x y H Q := by
  obtain ⟨a, vs, rfl, ha, qa⟩ := lstOf_at R hx e1
  obtain ⟨b, us, rfl, hb, qb⟩ := lstOf_at R hy e2
  exact ⟨a, b, vs, us, rfl, rfl, ha, hb, by rw [← qa.length, ← qb.length]; exact z, fun p hp => newL.go R (qa.append qb) q k p hp⟩
theorem sr_add {own : Bool} : SimR2 K (rAddA K) (dAdd own) := fun G H W x y dx dy Q QD R hx hy h k => by
  unfold dAdd at h
  split at h
  · obtain ⟨j, rfl, q⟩ := h
    exact .inl ⟨_, j, hx, hy, k.here (d := .int _) R rfl q⟩
  · obtain ⟨j, rfl, z, q⟩ := h
    exact .inr (.inl ⟨_, j, hx, hy, z, k.here (d := .str _) R rfl q⟩)
  · rename_i ds
    obtain ⟨es, rfl, z, q⟩ := h
    obtain ⟨a, vs, rfl, ha, qa⟩ := hx
    obtain ⟨b, us, rfl, hb, qb⟩ := hy
    refine .inr (.inr (.inl ⟨a, b, vs, us, rfl, rfl, SqT.of (R.tup ha), SqT.of (R.tup hb), by rw [← qa.length, ← qb.length]; exact z, fun e => ?_, fun _ e => ?_, fun _ _ p hp => ?_⟩))
    · subst e
      have e0 : ds = [] := List.eq_nil_of_length_eq_zero (by rw [qa.length]; rfl)
      subst e0
      exact k.here (d := .tup es) R ⟨b, us, rfl, hb, qb⟩ q
    · subst e
      have e0 : es = [] := List.eq_nil_of_length_eq_zero (by rw [qb.length]; rfl)
      subst e0
      rw [List.append_nil] at q
      exact k.here (d := .tup ds) R ⟨a, vs, rfl, ha, qa⟩ q
    · exact k.new (d := .tup (ds ++ es)) R hp ⟨p, _, rfl, upd_same, IsDs.up (same_updG (R.freeG hp)) _ _ (qa.append qb)⟩ q
  · obtain ⟨ds, es, e1, e2, z, q⟩ := h
    exact .inr (.inr (.inr (cat_lists R hx hy e1 e2 z q k)))
end
def D.near (x y : D) : Prop := x.plain = true ∧ y.plain = true ∧ min x.py.depth y.py.depth ≤ 150
def dEq : RD2 := fun x y W Q => x.near y ∧ Q (.bl (x.eqv y)) W
def dNe : RD2 := fun x y W Q => x.near y ∧ Q (.bl (!x.eqv y)) W
def rEqP (K : PySem.W.Frag) (neg : Bool) : R2 := fun x y H Q => ∃ d e, Dp K H x d ∧ Dp K H y e ∧ d.plain = true ∧ e.plain = true ∧ min d.depth e.depth ≤ 150 ∧ Q (.bl (if neg = true then !PyData.eqv d e else PyData.eqv d e)) H
theorem hu151 {A : Around} {k : Nat} (hr : Room k A) : A.units + 151 < cLine := by have := hr.un; omega
section
variable {X : Cx}
theorem op_eqP (hu : X.A.units + 151 < cLine) : OpR X (compareOp .Eq) (rEqP X.K false) := by
  intro pins s σ H x y v u Q I rx ry h
  obtain ⟨d, e, hd, he, pd, pe, z, q⟩ := h
  obtain ⟨as, r1⟩ := Dp.reads I d x v hd rx
  obtain ⟨bs, r2⟩ := Dp.reads I e y u he ry
  exact PySem.SeqAt.eq_plain r1 r2 pd pe (by omega) ⟨.bl _, H, I, rfl, q⟩
theorem op_neP (hu : X.A.units + 151 < cLine) : OpR X (compareOp .NotEq) (rEqP X.K true) := by
  intro pins s σ H x y v u Q I rx ry h
  obtain ⟨d, e, hd, he, pd, pe, z, q⟩ := h
  obtain ⟨as, r1⟩ := Dp.reads I d x v hd rx
  obtain ⟨bs, r2⟩ := Dp.reads I e y u he ry
  exact PySem.SeqAt.ne_plain r1 r2 pd pe (by omega) ⟨.bl _, H, I, rfl, q⟩
end
section
variable {K : PySem.W.Frag}
theorem sr_eq : SimR2 K (rEqP K false) dEq := fun G H W x y dx dy Q QD R hx hy h k => by
  obtain ⟨⟨p1, p2, z⟩, q⟩ := h
  exact ⟨dx.py, dy.py, IsD.dp R _ _ p1 hx, IsD.dp R _ _ p2 hy, D.plain_py _ p1, D.plain_py _ p2, z, k.here (d := .bl (dx.eqv dy)) R rfl q⟩
theorem sr_ne : SimR2 K (rEqP K true) dNe := fun G H W x y dx dy Q QD R hx hy h k => by
  obtain ⟨⟨p1, p2, z⟩, q⟩ := h
  exact ⟨dx.py, dy.py, IsD.dp R _ _ p1 hx, IsD.dp R _ _ p2 hy, D.plain_py _ p1, D.plain_py _ p2, z, k.here (d := .bl (!dx.eqv dy)) R rfl q⟩
end
def isNon : D → Bool
  | .non => true
  | _ => false
theorem isD_non {K : PySem.W.Frag} {G : Hp} {d : D} {v : V} (h : IsD K G d v) : decide (v = .non) = isNon d := by
  cases d with
  | non => cases (show v = .non from h); rfl
  | bl b => cases (show v = .bl b from h); rfl
  | int b => cases (show v = .int b from h); rfl
  | str b => cases (show v = .str b from h); rfl
  | ty b => cases (show v = .ty b from h); rfl
  | ptr b => cases (show v = .ref b from h); rfl
  | tup b => obtain ⟨a, _, rfl, _⟩ := h; rfl
  | lst b => obtain ⟨a, _, rfl, _⟩ := h; rfl
  | flst b => obtain ⟨a, _, rfl, _⟩ := h; rfl
  | dk b => obtain ⟨a, _, rfl, _⟩ := h; rfl
  | dt b => obtain ⟨a, _, rfl, _⟩ := h; rfl
  | fobj n b => obtain ⟨a, _, _, rfl, _⟩ := h; rfl
def dIs (neg : Bool) : RD2 := fun x y W Q => (y = .non ∧ Q (.bl (if neg = true then !isNon x else isNon x)) W) ∨ (∃ a b, x = .bl a ∧ y = .bl b ∧ Q (.bl (if neg = true then !decide (a = b) else decide (a = b))) W)
def rIsA (neg : Bool) : R2 := fun x y H Q => (y = .non ∧ Q (.bl (if neg = true then !decide (x = .non) else decide (x = .non))) H) ∨ (∃ a b, x = .bl a ∧ y = .bl b ∧ Q (.bl (if neg = true then !decide (a = b) else decide (a = b))) H)
section
variable {X : Cx}
theorem op_isA : OpR X (compareOp .Is) (rIsA false) := op_isN.or op_is_bl
end
section
variable {K : PySem.W.Frag}
theorem sr_is {neg : Bool} : SimR2 K (rIsA neg) (dIs neg) := fun G H W x y dx dy Q QD R hx hy h k => by
  rcases h with ⟨rfl, q⟩ | ⟨a, b, rfl, rfl, q⟩
  · refine .inl ⟨hy, ?_⟩
    rw [isD_non hx]
    exact k.here (d := .bl _) R rfl q
  · exact .inr ⟨a, b, hx, hy, k.here (d := .bl _) R rfl q⟩
end

def look {κ α : Type} [DecidableEq κ] (kds : List (κ × α)) (k : κ) : Option α := (kds.find? fun kv => decide (kv.1 = k)).map (·.2)
def dkOf (W : Wd) : D → Option (List (Key × D))
  | .dk kds => some kds
  | .ptr l => match W l with
    | some (.dk kds) => some kds
    | _ => none
  | _ => none
def dtOf (W : Wd) : D → Option (List (List Key × D))
  | .dt kds => some kds
  | .ptr l => match W l with
    | some (.dt kds) => some kds
    | _ => none
  | _ => none
@[simp] theorem dkOf_dk (W : Wd) (k : List (Key × D)) : dkOf W (.dk k) = some k := rfl
@[simp] theorem dtOf_dt (W : Wd) (k : List (List Key × D)) : dtOf W (.dt k) = some k := rfl
theorem dkOf_ptr {W : Wd} {l : Addr} {ds : List (Key × D)} (h : W l = some (.dk ds)) : dkOf W (.ptr l) = some ds := by simp [dkOf, h]
def keyOf : D → Option Key
  | .int i => some (.inl i)
  | .str x => some (.inr x)
  | _ => none
def keysOf : List D → Option (List Key)
  | [] => some []
  | d :: ds => match keyOf d, keysOf ds with
    | some k, some ks => some (k :: ks)
    | _, _ => none
/-- d[y], by what d is -/
def dGet (W : Wd) (d y : D) (r : Option D) : Prop := (∃ kds k, dkOf W d = some kds ∧ keyOf y = some k ∧ r = look kds k) ∨ (∃ kds ks k, dtOf W d = some kds ∧ y = .tup ks ∧ keysOf ks = some k ∧ r = look kds k)
section
variable {K : PySem.W.Frag} {G H : Hp} {W : Wd}
theorem IsKs.look : ∀ {kds : List (Key × D)} {kvs : List (Key × V)} (k : Key), IsKs K G kds kvs → (∃ d v, DL.look kds k = some d ∧ valV kvs k = some v ∧ IsD K G d v) ∨ (DL.look kds k = none ∧ valV kvs k = none)
  | [], _, k, h => by
    cases h
    exact .inr ⟨rfl, rfl⟩
  | (k', d) :: r, _, k, h => by
    obtain ⟨v, r', rfl, h1, h2⟩ := h
    by_cases e : k' = k
    · exact .inl ⟨d, v, by simp [DL.look, e], valV_pos e, h1⟩
    · rcases IsKs.look k h2 with ⟨d', v', e1, e2, q⟩ | ⟨e1, e2⟩
      · exact .inl ⟨d', v', by rw [← e1]; simp [DL.look, e], by rw [valV_neg e]; exact e2, q⟩
      · exact .inr ⟨by rw [← e1]; simp [DL.look, e], by rw [valV_neg e]; exact e2⟩
theorem IsTs.look : ∀ {kds : List (List Key × D)} {kvs : List (List Key × V)} (k : List Key), IsTs K G kds kvs → (∃ d v, DL.look kds k = some d ∧ valV kvs k = some v ∧ IsD K G d v) ∨ (DL.look kds k = none ∧ valV kvs k = none)
  | [], _, k, h => by
    cases h
    exact .inr ⟨rfl, rfl⟩
  | (k', d) :: r, _, k, h => by
    obtain ⟨v, r', rfl, h1, h2⟩ := h
    by_cases e : k' = k
    · exact .inl ⟨d, v, by simp [DL.look, e], valV_pos e, h1⟩
    · rcases IsTs.look k h2 with ⟨d', v', e1, e2, q⟩ | ⟨e1, e2⟩
      · exact .inl ⟨d', v', by rw [← e1]; simp [DL.look, e], by rw [valV_neg e]; exact e2, q⟩
      · exact .inr ⟨by rw [← e1]; simp [DL.look, e], by rw [valV_neg e]; exact e2⟩
theorem dkOf_at (R : Rel K G H W) {d : D} {v : V} {kds : List (Key × D)} (h : IsD K G d v) (e : dkOf W d = some kds) : ∃ a kvs, v = .ref a ∧ Rd H a (.dK kvs) ∧ IsKs K G kds kvs := by
  unfold dkOf at e
  split at e
  · cases e
    obtain ⟨a, vs, e1, e2, e3⟩ := h
    exact ⟨a, vs, e1, R.fk e2, e3⟩
  · rename_i l
    split at e
    · rename_i hw
      cases e
      obtain ⟨_, o, e1, vs, e2, e3⟩ := R.own _ _ hw
      subst e2
      exact ⟨l, vs, h, .inl e1, e3⟩
    · cases e
  · cases e
theorem dtOf_at (R : Rel K G H W) {d : D} {v : V} {kds : List (List Key × D)} (h : IsD K G d v) (e : dtOf W d = some kds) : ∃ a kvs, v = .ref a ∧ Rd H a (.dT kvs) ∧ IsTs K G kds kvs := by
  unfold dtOf at e
  split at e
  · cases e
    obtain ⟨a, vs, e1, e2, e3⟩ := h
    exact ⟨a, vs, e1, R.ft e2, e3⟩
  · rename_i l
    split at e
    · rename_i hw
      cases e
      obtain ⟨_, o, e1, vs, e2, e3⟩ := R.own _ _ hw
      subst e2
      exact ⟨l, vs, h, .inl e1, e3⟩
    · cases e
  · cases e
theorem keyOf_at {d : D} {v : V} {k : Key} (h : IsD K G d v) (e : keyOf d = some k) : v = kV k := by
  unfold keyOf at e
  split at e
  · cases e; exact h
  · cases e; exact h
  · cases e
theorem keysOf_at : ∀ {ds : List D} {vs : List V} {ks : List Key}, IsDs K G ds vs → keysOf ds = some ks → vs = ks.map kV
  | [], _, _, h, e => by
    cases h
    cases e
    rfl
  | d :: ds, _, ks, h, e => by
    obtain ⟨v, r, rfl, h1, h2⟩ := h
    unfold keysOf at e
    split at e
    · rename_i e1 e2
      cases e
      rw [List.map_cons, ← keyOf_at h1 e1, ← keysOf_at h2 e2]
    · cases e
theorem dGet_at (R : Rel K G H W) {d y : D} {v u : V} {r : Option D} (hd : IsD K G d v) (hy : IsD K G y u) (e : dGet W d y r) :
    ∃ a r', v = .ref a ∧ DGet H a u r' ∧ ((∃ d v, r = some d ∧ r' = some v ∧ IsD K G d v) ∨ (r = none ∧ r' = none)) := by
  rcases e with ⟨kds, k, e1, e2, rfl⟩ | ⟨kds, ks, k, e1, rfl, e2, rfl⟩
  · obtain ⟨a, kvs, rfl, ha, qa⟩ := dkOf_at R hd e1
    exact ⟨a, valV kvs k, rfl, .inl ⟨kvs, k, ha, keyOf_at hy e2, rfl⟩, qa.look k⟩
  · obtain ⟨a, kvs, rfl, ha, qa⟩ := dtOf_at R hd e1
    obtain ⟨b, us, rfl, hb, qb⟩ := hy
    exact ⟨a, valV kvs k, rfl, .inr ⟨kvs, k, b, ha, rfl, by rw [R.tup hb, keysOf_at qb e2], rfl⟩, qa.look k⟩
end
end DL

namespace DL
open PySem PySem.Spec PyProof.Rows L2

def rIxD : R2 := fun x y H Q => ∃ a v, x = .ref a ∧ DGet H a y (some v) ∧ Q v H
section
variable {X : Cx}
theorem ix_dict (hu : X.A.units + 1 < cLine) : IxR X rIxD := by
  intro value slice pins s σ H x y v u Q I rx ry h hs
  obtain ⟨a, w, rfl, g, q⟩ := h
  cases rx
  exact PyProof.Rows.tail_any (dict_typeIs I g) PySem.F.slot_dict_getitem.lookup (d_getItem hu I g ry fun w' s3 I3 rw' => ⟨w, H, I3, rw', q⟩) hs
def rIxA (K : PySem.W.Frag) : R2 := fun x y H Q => rIx K x y H Q ∨ rIxD x y H Q
theorem ix_all (hu : X.A.units + 1 < cLine) : IxR X (rIxA X.K) := ix_seq.or (ix_dict hu)
end
def dIx : RD2 := fun x y W Q => match x with
  | .tup ds => ∃ i d, y = .int i ∧ atI ds i = some d ∧ Q d W
  | .str z => ∃ i c, y = .int i ∧ z.length ≤ sizeLine ∧ atI z.cps.toList i = some c ∧ Q (.str ⟨#[c]⟩) W
  | x => (∃ ds i d, lstRd W x = some ds ∧ y = .int i ∧ atI ds i = some d ∧ Q d W) ∨ ∃ d, dGet W x y (some d) ∧ Q d W
theorem IsDs.atI {K : PySem.W.Frag} {G : Hp} {ds : List D} {vs : List V} {i : Int} {d : D} (h : IsDs K G ds vs) (e : L2.atI ds i = some d) : ∃ v, L2.atI vs i = some v ∧ IsD K G d v := by
  unfold L2.atI at e ⊢
  rw [← h.length]
  cases q : ixN ds.length i with
  | none => rw [q] at e; cases e
  | some j =>
    rw [q] at e
    exact h.get e
section
variable {K : PySem.W.Frag}
theorem sr_ix : SimR2 K (rIxA K) dIx := fun G H W x y dx dy Q QD R hx hy h k => by
  unfold dIx at h
  split at h
  · obtain ⟨i, d, rfl, e, q⟩ := h
    obtain ⟨a, vs, rfl, ha, qa⟩ := hx
    obtain ⟨v, e2, q2⟩ := qa.atI e
    exact .inl (.inr (.inl ⟨a, vs, i, v, rfl, hy, SqT.of (R.tup ha), e2, k.here R q2 q⟩))
  · obtain ⟨i, c, rfl, z, e, q⟩ := h
    exact .inl (.inr (.inr ⟨_, i, c, hx, hy, z, e, k.here (d := .str _) R rfl q⟩))
  · rcases h with ⟨ds, i, d, e1, rfl, e, q⟩ | ⟨d, g, q⟩
    · obtain ⟨a, vs, rfl, ha, qa⟩ := lstRd_at R hx e1
      obtain ⟨v, e2, q2⟩ := qa.atI e
      exact .inl (.inl ⟨a, vs, i, v, rfl, hy, ha, e2, k.here R q2 q⟩)
    · obtain ⟨a, r', rfl, g', qq⟩ := dGet_at R hx hy g
      rcases qq with ⟨d', v, e1, rfl, q3⟩ | ⟨e1, _⟩
      · cases e1
        exact .inr ⟨a, v, rfl, g', k.here R q3 q⟩
      · cases e1
end

def dSl (own : Bool) : D → Option Int → Option Int → Wd → DQ → Prop := fun x lo hi W Q => match x with
  | .tup ds => Q (.tup (cutD ds lo hi)) W
  | .str z => z.length ≤ sizeLine ∧ Q (.str (cutS z lo hi)) W
  | x => ∃ ds, lstRd W x = some ds ∧ newL own (cutD ds lo hi) W Q
def rSl (K : PySem.W.Frag) : V → Option Int → Option Int → Hp → VK → Prop := fun x lo hi H Q => rSlA K x lo hi H Q ∨ rSlS x lo hi H Q ∨ rSlL K x lo hi H Q
theorem sl_all {X : Cx} : SlR X (rSl X.K) := sl_tupA.or (sl_str.or sl_list)
theorem cutD_whole {vs : List D} {lo hi : Option Int} (h : HT.sIx vs.length 0 lo = 0 ∧ HT.sIx vs.length vs.length hi = vs.length) : cutD vs lo hi = vs := by
  unfold cutD
  rw [h.1, h.2, List.drop_zero, Nat.sub_zero, List.take_length]
theorem sl_sim {K : PySem.W.Frag} {own : Bool} : SimSl K (rSl K) (dSl own) := fun G H W x dx lo hi Q QD R hx h k => by
  unfold dSl at h
  split at h
  · rename_i ds
    obtain ⟨a, vs, rfl, ha, qa⟩ := hx
    refine .inl ⟨a, vs, rfl, SqT.of (R.tup ha), fun e => ?_, fun _ p hp => ?_⟩
    · rw [cutD_whole (by rw [qa.length]; exact e)] at h
      exact k.here (d := .tup ds) R ⟨a, vs, rfl, ha, qa⟩ h
    · exact k.new (d := .tup (cutD ds lo hi)) R hp ⟨p, _, rfl, upd_same, IsDs.up (same_updG (R.freeG hp)) _ _ (qa.cut lo hi)⟩ h
  · exact .inr (.inl ⟨_, hx, h.1, k.here (d := .str _) R rfl h.2⟩)
  · obtain ⟨ds, e, q⟩ := h
    obtain ⟨a, vs, rfl, ha, qa⟩ := lstRd_at R hx e
    exact .inr (.inr ⟨a, vs, rfl, ha, fun p hp => newL.go R (qa.cut lo hi) q k p hp⟩)

def rInP (K : PySem.W.Frag) (neg : Bool) : R2 := fun x y H Q => ∃ d ds, Dp K H x d ∧ (Dp K H y (.list ds) ∨ Dp K H y (.tuple ds)) ∧ d.plain = true ∧ PyData.plainAll ds = true ∧ min (PyData.depthAll ds) d.depth ≤ 150 ∧ Q (.bl (if neg = true then !(ds.any fun z => PyData.eqv z d) else ds.any fun z => PyData.eqv z d)) H
def rInDk (neg : Bool) : R2 := fun x y H Q => ∃ a ov, y = .ref a ∧ DGet H a x ov ∧ Q (.bl (if neg = true then !ov.isSome else ov.isSome)) H
def rInS (neg : Bool) : R2 := fun x y H Q => ∃ i j, x = .str i ∧ y = .str j ∧ Q (.bl (if neg = true then !(!(Builtin.Str.occurrences j i 0 j.length 1).isEmpty) else !(Builtin.Str.occurrences j i 0 j.length 1).isEmpty)) H
def rInA (K : PySem.W.Frag) (neg : Bool) : R2 := fun x y H Q => rInP K neg x y H Q ∨ rInDk neg x y H Q ∨ rInS neg x y H Q
section
variable {X : Cx}
theorem op_inA (hu : X.A.units + 151 < cLine) : OpR X (compareOp .In) (rInA X.K false) := by
  intro pins s σ H x y v u Q I rx ry h
  rcases h with ⟨d, ds, hd, he, pd, pe, z, q⟩ | ⟨a, ov, rfl, g, q⟩ | h
  · obtain ⟨as, r1⟩ := Dp.reads I d x v hd rx
    rcases he with he | he
    · obtain ⟨bs, r2⟩ := Dp.reads I (.list ds) y u he ry
      exact PySem.SeqAt.in_list_data r2 r1 pe pd (by omega) ⟨.bl _, H, I, rfl, q⟩
    · obtain ⟨bs, r2⟩ := Dp.reads I (.tuple ds) y u he ry
      exact PySem.SeqAt.in_tuple_data r2 r1 pe pd (by omega) ⟨.bl _, H, I, rfl, q⟩
  · cases ry
    exact d_in (by omega) I g rx fun s3 I3 => ⟨.bl _, H, I3, rfl, q⟩
  · exact op_in_str pins s σ H x y v u Q I rx ry h
theorem op_notInA (hu : X.A.units + 151 < cLine) : OpR X (compareOp .NotIn) (rInA X.K true) := by
  intro pins s σ H x y v u Q I rx ry h
  rcases h with ⟨d, ds, hd, he, pd, pe, z, q⟩ | ⟨a, ov, rfl, g, q⟩ | h
  · obtain ⟨as, r1⟩ := Dp.reads I d x v hd rx
    rcases he with he | he
    · obtain ⟨bs, r2⟩ := Dp.reads I (.list ds) y u he ry
      exact PySem.SeqAt.notIn_list_data r2 r1 pe pd (by omega) ⟨.bl _, H, I, rfl, q⟩
    · obtain ⟨bs, r2⟩ := Dp.reads I (.tuple ds) y u he ry
      exact PySem.SeqAt.notIn_tuple_data r2 r1 pe pd (by omega) ⟨.bl _, H, I, rfl, q⟩
  · cases ry
    exact d_notIn (by omega) I g rx fun s3 I3 => ⟨.bl _, H, I3, rfl, q⟩
  · exact op_notin_str pins s σ H x y v u Q I rx ry h
end
def D.within (x : D) (ds : List D) : Bool := ds.any fun z => z.eqv x
def D.nears (x : D) (ds : List D) : Prop := x.plain = true ∧ D.plains ds = true ∧ min (PyData.depthAll (D.pys ds)) x.py.depth ≤ 150
def dIn (neg : Bool) : RD2 := fun x y W Q => match y with
  | .tup ds => x.nears ds ∧ Q (.bl (if neg = true then !x.within ds else x.within ds)) W
  | .str j => ∃ i, x = .str i ∧ Q (.bl (if neg = true then !(!(Builtin.Str.occurrences j i 0 j.length 1).isEmpty) else !(Builtin.Str.occurrences j i 0 j.length 1).isEmpty)) W
  | y => (∃ ds, lstRd W y = some ds ∧ x.nears ds ∧ Q (.bl (if neg = true then !x.within ds else x.within ds)) W) ∨ ∃ r, dGet W y x r ∧ Q (.bl (if neg = true then !r.isSome else r.isSome)) W
theorem pys_any (d : D) : ∀ ds : List D, ((D.pys ds).any fun z => PyData.eqv z d.py) = d.within ds
  | [] => rfl
  | e :: ds => by
    have h := pys_any d ds
    unfold D.within at h ⊢
    rw [D.pys, List.any_cons, List.any_cons, h]
    rfl
theorem sr_in {K : PySem.W.Frag} {neg : Bool} : SimR2 K (rInA K neg) (dIn neg) := fun G H W x y dx dy Q QD R hx hy h k => by
  unfold dIn at h
  split at h
  · obtain ⟨⟨p1, p2, z⟩, q⟩ := h
    obtain ⟨a, vs, rfl, ha, qa⟩ := hy
    refine .inl ⟨dx.py, _, IsD.dp R _ _ p1 hx, .inr (.tup (SqT.of (R.tup ha)) (IsDs.dp R _ _ p2 qa)), D.plain_py _ p1, D.plains_py _ p2, z, ?_⟩
    rw [pys_any]
    exact k.here (d := .bl _) R rfl q
  · obtain ⟨i, rfl, q⟩ := h
    exact .inr (.inr ⟨i, _, hx, hy, k.here (d := .bl _) R rfl q⟩)
  · rcases h with ⟨ds, e, ⟨p1, p2, z⟩, q⟩ | ⟨r, g, q⟩
    · obtain ⟨a, vs, rfl, ha, qa⟩ := lstRd_at R hy e
      refine .inl ⟨dx.py, _, IsD.dp R _ _ p1 hx, .inl (.lst ha (IsDs.dp R _ _ p2 qa)), D.plain_py _ p1, D.plains_py _ p2, z, ?_⟩
      rw [pys_any]
      exact k.here (d := .bl _) R rfl q
    · obtain ⟨a, r', rfl, g', qq⟩ := dGet_at R hy hx g
      refine .inr (.inl ⟨a, r', rfl, g', ?_⟩)
      have e : r'.isSome = r.isSome := by
        rcases qq with ⟨_, _, rfl, rfl, _⟩ | ⟨rfl, rfl⟩ <;> rfl
      rw [e]
      exact k.here (d := .bl _) R rfl q

section
variable {X : Cx} {G0 : Hp} {x : Str} {p pos : Pos} {e : Expr} {es : List Expr} {t : L2.TA} {at' : AA} {id T : String} {r r' : List V → Hp → VK → Prop} {rd : RDC}
def aCB (r : RDC) (t : AA) : AE := fun δ W Q => t δ W fun ds W1 => r ds W1 Q
theorem sim_cb {K : PySem.W.Frag} (hr : SimRC K r rd) (h : SimA K G0 t at') : SimE K G0 (tCB r t) (aCB rd at') := fun σ H Q G δ W QD s0 R S q k => by
  refine h σ H _ G δ W _ s0 R S q fun vs ds G1 H1 W1 s1 R1 d1 h1 => ?_
  exact hr G1 H1 W1 vs ds Q QD R1 d1 h1 (k.up s1)
theorem de_callB (hc : CallR X (.builtin id) r) (hr : SimRC X.K r rd) (hg : Gl X x) (hm : X.mg x = none) (hv : bootBuiltins x = some (.builtin id)) (ha : DA X G0 (e :: es) t at') (hn : x ≠ "__name__" := by decide) (hdb : (x == ("__debug__" : Str)) = false := by decide)
    (he : starEach (e :: es) X.env = (false, eval e X.env) :: starEach es X.env := by rfl) (hpl : (backTo pos (starEach es X.env)).any (·.1) = false := by rfl) : DE X G0 (.Call (.Name x p) (e :: es) [] pos) (tCB r t) (aCB rd at') :=
  ⟨pe_callB hc hg hm hv ha.pa hn hdb he hpl, sim_cb hr ha.sim⟩
theorem de_callTy (hc : CallR X (.type T) r) (hr : SimRC X.K r rd) (hg : Gl X x) (hm : X.mg x = none) (hv : bootBuiltins x = some (.type T)) (ha : DA X G0 (e :: es) t at') (hn : x ≠ "__name__" := by decide) (hdb : (x == ("__debug__" : Str)) = false := by decide)
    (he : starEach (e :: es) X.env = (false, eval e X.env) :: starEach es X.env := by rfl) (hpl : (backTo pos (starEach es X.env)).any (·.1) = false := by rfl) : DE X G0 (.Call (.Name x p) (e :: es) [] pos) (tCB r t) (aCB rd at') :=
  ⟨pe_callTy hc hg hm hv ha.pa hn hdb he hpl, sim_cb hr ha.sim⟩
theorem callR_or {f : Value} (h : CallR X f r) (h' : CallR X f r') : CallR X f (fun xs H Q => r xs H Q ∨ r' xs H Q) := fun pins s σ H xs us Q I rs q => by
  rcases q with q | q
  · exact h pins s σ H xs us Q I rs q
  · exact h' pins s σ H xs us Q I rs q
end
def rLenA (K : PySem.W.Frag) : List V → Hp → VK → Prop := fun xs H Q => (∃ x n, xs = [x] ∧ LenV K x H n ∧ Q (.int n) H) ∨ (∃ a kvs, xs = [V.ref a] ∧ Rd H a (.dK kvs) ∧ Q (.int kvs.length) H) ∨ rLenT xs H Q
theorem call_lenR {X : Cx} : CallR X (.builtin "len") (fun xs H Q => ∃ a kvs, xs = [V.ref a] ∧ Rd H a (.dK kvs) ∧ Q (.int kvs.length) H) := by
  rintro pins s σ H xs us Q I r ⟨a, kvs, rfl, ha, q⟩
  obtain ⟨u, rfl, ru⟩ := vals1 r
  cases ru
  exact d_len I ha fun t s' I' => ⟨V.int kvs.length, H, I', ⟨t, rfl⟩, q⟩
theorem call_lenA {X : Cx} : CallR X (.builtin "len") (rLenA X.K) := callR_or call_len (callR_or call_lenR call_len_dT)
def lenOf (W : Wd) : D → Option Nat
  | .str z => if z.length ≤ sizeLine then some z.length else none
  | .tup ds => some ds.length
  | .lst ds => some ds.length
  | .flst ds => some ds.length
  | .ptr l => match W l with
    | some (.lst ds) => some ds.length
    | some (.dk ds) => some ds.length
    | some (.dt ds) => some ds.length
    | _ => none
  | .dk ds => some ds.length
  | _ => none
def dLen : RDC := fun ds W Q => ∃ d n, ds = [d] ∧ lenOf W d = some n ∧ Q (.int n) W
theorem IsKs.length {K : PySem.W.Frag} {G : Hp} : ∀ {kds : List (Key × D)} {kvs : List (Key × V)}, IsKs K G kds kvs → kds.length = kvs.length
  | [], _, h => by cases h; rfl
  | (k, d) :: ds, _, h => by
    obtain ⟨v, r, e, _, h2⟩ := h
    rw [e, List.length_cons, List.length_cons, h2.length]
theorem IsTs.length {K : PySem.W.Frag} {G : Hp} : ∀ {kds : List (List Key × D)} {kvs : List (List Key × V)}, IsTs K G kds kvs → kds.length = kvs.length
  | [], _, h => by cases h; rfl
  | (k, d) :: ds, _, h => by
    obtain ⟨v, r, e, _, h2⟩ := h
    rw [e, List.length_cons, List.length_cons, h2.length]
theorem one_of {K : PySem.W.Frag} {G : Hp} {d : D} {vs : List V} (h : IsDs K G [d] vs) : ∃ v, vs = [v] ∧ IsD K G d v := by
  obtain ⟨v, r, rfl, h1, h2⟩ := h
  cases h2
  exact ⟨v, rfl, h1⟩
theorem two_of {K : PySem.W.Frag} {G : Hp} {d e : D} {vs : List V} (h : IsDs K G [d, e] vs) : ∃ v u, vs = [v, u] ∧ IsD K G d v ∧ IsD K G e u := by
  obtain ⟨v, r, rfl, h1, h2⟩ := h
  obtain ⟨u, rfl, h3⟩ := one_of h2
  exact ⟨v, u, rfl, h1, h3⟩
theorem sc_len {K : PySem.W.Frag} : SimRC K (rLenA K) dLen := fun G H W xs ds Q QD R hx h k => by
  obtain ⟨d, n, rfl, e, q⟩ := h
  obtain ⟨v, rfl, hv⟩ := one_of hx
  have fin : Q (.int n) H := k.here (d := .int n) R rfl q
  unfold lenOf at e
  split at e
  · split at e
    · cases e
      cases (show v = _ from hv)
      exact .inl ⟨_, _, rfl, ⟨by assumption, rfl⟩, fin⟩
    · cases e
  · cases e
    obtain ⟨a, vs, rfl, ha, qa⟩ := hv
    exact .inl ⟨_, _, rfl, .inr ⟨vs, SqT.of (R.tup ha), qa.length⟩, fin⟩
  · cases e
    obtain ⟨a, vs, rfl, ha, qa⟩ := hv
    exact .inl ⟨_, _, rfl, .inl ⟨vs, SqL.of (R.lst ha), qa.length⟩, fin⟩
  · cases e
    obtain ⟨a, vs, rfl, ha, qa⟩ := hv
    exact .inl ⟨_, _, rfl, .inl ⟨vs, ha.sq R, qa.length⟩, fin⟩
  · rename_i l
    cases (show v = _ from hv)
    split at e
    · rename_i hw
      cases e
      obtain ⟨_, o, e1, vs, e2, e3⟩ := R.own _ _ hw
      subst e2
      exact .inl ⟨_, _, rfl, .inl ⟨vs, SqL.of e1, e3.length⟩, fin⟩
    · rename_i hw
      cases e
      obtain ⟨_, o, e1, vs, e2, e3⟩ := R.own _ _ hw
      subst e2
      rw [e3.length] at fin
      exact .inr (.inl ⟨l, vs, rfl, .inl e1, fin⟩)
    · rename_i hw
      cases e
      obtain ⟨_, o, e1, vs, e2, e3⟩ := R.own _ _ hw
      subst e2
      rw [e3.length] at fin
      exact .inr (.inr ⟨l, vs, rfl, e1, fin⟩)
    · cases e
  · cases e
    obtain ⟨a, vs, rfl, ha, qa⟩ := hv
    rw [qa.length] at fin
    exact .inr (.inl ⟨a, vs, rfl, R.fk ha, fin⟩)
  · cases e
def tyOf (W : Wd) : D → Option String
  | .non => some "NoneType"
  | .bl _ => some "bool"
  | .int _ => some "int"
  | .str _ => some "str"
  | .tup _ => some "tuple"
  | .lst _ => some "list"
  | .flst _ => some "list"
  | .ptr l => match W l with
    | some (.lst _) => some "list"
    | some (.dk _) => some "dict"
    | some (.dt _) => some "dict"
    | _ => none
  | .dk _ => some "dict"
  | _ => none
def isiB (a b : String) : Bool := decide (a = b) || (decide (a = "bool") && decide (b = "int"))
def dIsi : RDC := fun ds W Q => match ds with
  | [d, .ty n] => ∃ a, tyOf W d = some a ∧ (n = "int" ∨ n = "bool" ∨ n = "str" ∨ n = "tuple" ∨ n = "list" ∨ n = "dict") ∧ Q (.bl (isiB a n)) W
  | _ => False
theorem tyOf_names {W : Wd} {d : D} {a : String} (h : tyOf W d = some a) : a = "NoneType" ∨ a = "bool" ∨ a = "int" ∨ a = "str" ∨ a = "tuple" ∨ a = "list" ∨ a = "dict" := by
  unfold tyOf at h
  split at h
  all_goals first | (cases h; done) | (cases h; simp; done) | (split at h <;> cases h <;> simp)
theorem isi_ok {K : PySem.W.Frag} {a n : String} (ha : a = "NoneType" ∨ a = "bool" ∨ a = "int" ∨ a = "str" ∨ a = "tuple" ∨ a = "list" ∨ a = "dict") (hn : n = "int" ∨ n = "bool" ∨ n = "str" ∨ n = "tuple" ∨ n = "list" ∨ n = "dict") : PySem.W.kitOne K (.type a) (.type n) = some (isiB a n) := by
  rcases ha with rfl | rfl | rfl | rfl | rfl | rfl | rfl <;> rcases hn with rfl | rfl | rfl | rfl | rfl | rfl <;> exact kit_ty (by decide +kernel)
theorem tyX_of {K : PySem.W.Frag} {G H : Hp} {W : Wd} (R : Rel K G H W) {d : D} {v : V} {a : String} (hd : IsD K G d v) (h : tyOf W d = some a) : TyX K H v (.type a) := by
  unfold tyOf at h
  split at h
  · cases h; cases (show v = _ from hd); exact .base .non
  · cases h; cases (show v = _ from hd); exact .base (.bl _)
  · cases h; cases (show v = _ from hd); exact .base (.int _)
  · cases h; cases (show v = _ from hd); exact .base (.str _)
  · cases h; obtain ⟨a, vs, rfl, ha, _⟩ := hd; exact .base (.tup (R.tup ha))
  · cases h; obtain ⟨a, vs, rfl, ha, _⟩ := hd; exact .base (.lst (R.lst ha))
  · cases h
    obtain ⟨a, vs, rfl, ha, _⟩ := hd
    rcases ha with ⟨o, ha⟩ | (ha | ⟨_, ha⟩) | ⟨o, its, n, l1, l2, _⟩
    · exact .base (.frz ((R.st _ _ ha).eq rfl))
    · cases ha
    · cases ha
    · exact .kList l1 l2
  · rename_i l
    cases (show v = _ from hd)
    split at h
    · rename_i hw
      cases h
      obtain ⟨_, o, e1, vs, e2, e3⟩ := R.own _ _ hw
      subst e2
      exact .base (.lst e1)
    · rename_i hw
      cases h
      obtain ⟨_, o, e1, vs, e2, e3⟩ := R.own _ _ hw
      subst e2
      exact .base (.dK e1)
    · rename_i hw
      cases h
      obtain ⟨_, o, e1, vs, e2, e3⟩ := R.own _ _ hw
      subst e2
      exact .base (.dT e1)
    · cases h
  · cases h
    obtain ⟨a, vs, rfl, ha, qa⟩ := hd
    rcases R.fk ha with h1 | ⟨o, h1⟩
    · exact .base (.dK h1)
    · exact .fDict h1
  · cases h
theorem sc_isi {K : PySem.W.Frag} : SimRC K (rIsi K) dIsi := fun G H W xs ds Q QD R hx h k => by
  unfold dIsi at h
  split at h
  · rename_i d n
    obtain ⟨a, e1, e2, q⟩ := h
    obtain ⟨v, u, rfl, hv, hu⟩ := two_of hx
    cases (show u = _ from hu)
    exact ⟨v, .ty n, _, _, _, rfl, .ty n, tyX_of R hv e1, isi_ok (tyOf_names e1) e2, k.here (d := .bl _) R rfl q⟩
  · cases h
def rIntA : List V → Hp → VK → Prop := fun xs H Q => ((∃ i, xs = [.int i] ∧ Q (.int i) H) ∨ ∃ k, xs = [.bl k] ∧ Q (.int (if k then 1 else 0)) H) ∨ (∃ a n, xs = [.str a] ∧ PySem.intText? a = some n ∧ a.length ≤ 640 ∧ Q (.int n) H)
theorem call_intA {X : Cx} : CallR X (.type "int") rIntA := callR_or call_int1 call_int_str
def dInt : RDC := fun ds W Q => match ds with
  | [.int i] => Q (.int i) W
  | [.bl k] => Q (.int (if k = true then 1 else 0)) W
  | [.str a] => ∃ n, PySem.intText? a = some n ∧ a.length ≤ 640 ∧ Q (.int n) W
  | _ => False
theorem sc_int {K : PySem.W.Frag} : SimRC K rIntA dInt := fun G H W xs ds Q QD R hx h k => by
  unfold dInt at h
  split at h
  · obtain ⟨v, rfl, hv⟩ := one_of hx
    cases (show v = _ from hv)
    exact .inl (.inl ⟨_, rfl, k.here (d := .int _) R rfl h⟩)
  · obtain ⟨v, rfl, hv⟩ := one_of hx
    cases (show v = _ from hv)
    exact .inl (.inr ⟨_, rfl, k.here (d := .int _) R rfl h⟩)
  · obtain ⟨v, rfl, hv⟩ := one_of hx
    cases (show v = _ from hv)
    obtain ⟨n, e1, e2, q⟩ := h
    exact .inr ⟨_, n, rfl, e1, e2, k.here (d := .int _) R rfl q⟩
  · cases h
def dMax2 : RDC := fun ds W Q => ∃ i j, ds = [.int i, .int j] ∧ Q (.int (if j > i then j else i)) W
def dMin2 : RDC := fun ds W Q => ∃ i j, ds = [.int i, .int j] ∧ Q (.int (if j < i then j else i)) W
theorem sc_max2 {K : PySem.W.Frag} : SimRC K (fun xs H Q => ∃ i j, xs = [V.int i, V.int j] ∧ Q (V.int (if j > i then j else i)) H) dMax2 := fun G H W xs ds Q QD R hx h k => by
  obtain ⟨i, j, rfl, q⟩ := h
  obtain ⟨v, u, rfl, hv, hu⟩ := two_of hx
  cases (show v = _ from hv)
  cases (show u = _ from hu)
  exact ⟨i, j, rfl, k.here (d := .int _) R rfl q⟩
def rListA (K : PySem.W.Frag) : List V → Hp → VK → Prop := fun xs H Q => ∃ p ys, xs = [.ref p] ∧ (SqL K H p ys ∨ SqT K H p ys) ∧ ∀ l, H l = none → Q (.ref l) (upd H l (.lst ys))
def dList (own : Bool) : RDC := fun ds W Q => ∃ d es, ds = [d] ∧ (lstRd W d = some es ∨ d = .tup es) ∧ newL own es W Q
theorem sc_list {K : PySem.W.Frag} {own : Bool} : SimRC K (rListA K) (dList own) := fun G H W xs ds Q QD R hx h k => by
  obtain ⟨d, es, rfl, e, q⟩ := h
  obtain ⟨v, rfl, hv⟩ := one_of hx
  rcases e with e | rfl
  · obtain ⟨a, vs, rfl, ha, qa⟩ := lstRd_at R hv e
    exact ⟨a, vs, rfl, .inl ha, fun p hp => newL.go R qa q k p hp⟩
  · obtain ⟨a, vs, rfl, ha, qa⟩ := hv
    exact ⟨a, vs, rfl, .inr (SqT.of (R.tup ha)), fun p hp => newL.go R qa q k p hp⟩
def dTuple : RDC := fun ds W Q => ∃ d es, ds = [d] ∧ (lstRd W d = some es ∨ d = .tup es) ∧ Q (.tup es) W
end DL

namespace DL
open PySem PySem.Spec PyProof.Rows L2

structure AEnds where
  nx : Sl → Wd → Prop
  rt : DQ
  bk : Sl → Wd → Prop := fun _ _ => False
  ct : Sl → Wd → Prop := fun _ _ => False
abbrev AS := AEnds → Sl → Wd → Prop
abbrev AG := D → Sl → Wd → (Sl → Wd → Prop) → Prop
abbrev AGs := List D → Sl → Wd → (Sl → Wd → Prop) → Prop
section
variable (K : PySem.W.Frag) (G0 G : Hp)
def KontS (N : Sl → Wd → Prop) (M : L2.St → Hp → Prop) : Prop := ∀ σ δ G' H' W', Same G G' → Rel K G' H' W' → IsSl K G' δ σ → N δ W' → M σ H'
structure EndsOk (E : Ends) (A : AEnds) : Prop where
  nx : KontS K G A.nx E.nx
  rt : Kont K G A.rt E.rt
  bk : KontS K G A.bk E.bk
  ct : KontS K G A.ct E.ct
def SimS (t : TS) (a : AS) : Prop := ∀ E A σ H G δ W, Same G0 G → Rel K G H W → IsSl K G δ σ → EndsOk K G E A → a A δ W → t E σ H
def SimG (g : TG) (a : AG) : Prop := ∀ x d σ H M G δ W N, Same G0 G → Rel K G H W → IsSl K G δ σ → IsD K G d x → a d δ W N → KontS K G N M → g x σ H M
def SimGs (g : TGs) (a : AGs) : Prop := ∀ xs ds σ H M G δ W N, Same G0 G → Rel K G H W → IsSl K G δ σ → IsDs K G ds xs → a ds δ W N → KontS K G N M → g xs σ H M
end
structure DS (X : Cx) (G0 : Hp) (st : Stmt) (t : TS) (a : AS) : Prop where
  ps : PS X st t
  sim : SimS X.K G0 t a
structure DSs (X : Cx) (G0 : Hp) (st : List Stmt) (t : TS) (a : AS) : Prop where
  ps : PSs X st t
  sim : SimS X.K G0 t a
structure DG (X : Cx) (G0 : Hp) (tg : Expr) (g : TG) (a : AG) : Prop where
  pg : PG X tg g
  sim : SimG X.K G0 g a
structure DGs (X : Cx) (G0 : Hp) (tg : List Expr) (g : TGs) (a : AGs) : Prop where
  pg : PGs X tg g
  sim : SimGs X.K G0 g a
section
variable {K : PySem.W.Frag} {G0 G G1 : Hp}
theorem KontS.up {N : Sl → Wd → Prop} {M : L2.St → Hp → Prop} (s : Same G G1) (h : KontS K G N M) : KontS K G1 N M := fun σ δ G' H' W' s' => h σ δ G' H' W' (s.trans s')
theorem EndsOk.up {E : Ends} {A : AEnds} (s : Same G G1) (h : EndsOk K G E A) : EndsOk K G1 E A := ⟨h.nx.up s, h.rt.up s, h.bk.up s, h.ct.up s⟩
end

section
variable {X : Cx} {G0 : Hp} {st : Stmt} {rest : List Stmt} {t u : TS} {a b : AS} {e : Expr} {te : TE} {ae : AE} {pos : Pos}
def aNext : AS := fun A δ W => A.nx δ W
def aSeq (t u : AS) : AS := fun A δ W => t { A with nx := fun δ W => u A δ W } δ W
theorem sim_seq {K : PySem.W.Frag} (h1 : SimS K G0 t a) (h2 : SimS K G0 u b) : SimS K G0 (tSeq t u) (aSeq a b) := fun E A σ H G δ W s0 R S eo h =>
  h1 { E with nx := u E } { A with nx := fun δ W => b A δ W } σ H G δ W s0 R S ⟨fun σ' δ' G' H' W' s R' S' h' => h2 E A σ' H' G' δ' W' (s0.trans s) R' S' (eo.up s) h', eo.rt, eo.bk, eo.ct⟩ h
theorem dss_nil : DSs X G0 [] tNext aNext := ⟨pss_nil, fun E A σ H G δ W s0 R S eo h => eo.nx σ δ G H W (Same.refl G) R S h⟩
theorem dss_cons (h1 : DS X G0 st t a) (h2 : DSs X G0 rest u b) : DSs X G0 (st :: rest) (tSeq t u) (aSeq a b) := ⟨pss_cons h1.ps h2.ps, sim_seq h1.sim h2.sim⟩
theorem dss_one (h1 : DS X G0 st t a) : DSs X G0 [st] t a := ⟨pss_one h1.ps, h1.sim⟩
/-- the owned list in slot i is owned no more from here on -/
def aFrz (i : Nat) (b : AS) : AS := fun A δ W => ∃ l m d, δ[i]? = some (some (.ptr l)) ∧ W l = some m ∧ frzD m = some d ∧ b A (δ.set i (some d)) (W.del l)
def aBreak : AS := fun A δ W => A.bk δ W
def aCont : AS := fun A δ W => A.ct δ W
def aDrop (a : AE) : AS := fun A δ W => a δ W fun _ W1 => A.nx δ W1
theorem ds_expr (he : DE X G0 e te ae) (hs : swapsWith e none pos.line X.env = pure false := by rfl) : DS X G0 (.Expr e pos) (tDrop te) (aDrop ae) := ⟨ps_expr he.pe hs, fun E A σ H G δ W s0 R S eo h =>
  he.sim σ H _ G δ W _ s0 R S h fun x d G1 H1 W1 s1 R1 d1 h1 => eo.nx σ δ G1 H1 W1 s1 R1 (S.up s1) h1⟩
def aRet (a : AE) : AS := fun A δ W => a δ W A.rt
theorem ds_ret (he : DE X G0 e te ae) : DS X G0 (.Return (some e) pos) (tRet te) (aRet ae) := ⟨ps_ret he.pe, fun E A σ H G δ W s0 R S eo h => he.sim σ H _ G δ W _ s0 R S h eo.rt⟩
def aRetN : AS := fun A _ W => A.rt .non W
theorem ds_retN : DS X G0 (.Return none pos) tRetN aRetN := ⟨ps_retN, fun E A σ H G δ W s0 R S eo h => eo.rt.here (d := .non) R rfl h⟩
def aIfS (c : AT) (t u : AS) : AS := fun A δ W => c δ W fun b W1 => if b = true then t A δ W1 else u A δ W1
theorem ds_if {c : Expr} {sa sb : List Stmt} {tc : TT} {ac : AT} (hc : DT X G0 c tc ac) (ha : DSs X G0 sa t a) (hb : DSs X G0 sb u b) : DS X G0 (.If c sa sb pos) (tIfS tc t u) (aIfS ac a b) := ⟨ps_if hc.pt ha.ps hb.ps, fun E A σ H G δ W s0 R S eo h => by
  refine hc.sim σ H _ G δ W _ s0 R S h fun k G1 H1 W1 s1 R1 h1 => ?_
  cases k with
  | true => exact iteT (ha.sim E A σ H1 G1 δ W1 (s0.trans s1) R1 (S.up s1) (eo.up s1) (by simpa using h1))
  | false => exact iteF (hb.sim E A σ H1 G1 δ W1 (s0.trans s1) R1 (S.up s1) (eo.up s1) (by simpa using h1))⟩
def agName (i : Nat) : AG := fun d δ W N => N (δ.set i (some d)) W
theorem dg_name {i : Nat} {x : Str} (hN : X.N.Nodup) (hi : X.N[i]? = some x) (hx : Loc X.env.scope x) (hf : X.fn x = true ∨ X.env.scope.names.lookup x = some .local := by first | exact .inl rfl | exact .inr rfl | assumption) : DG X G0 (.Name x pos) (gName i) (agName i) :=
  ⟨pg_name hN hi hx hf, fun x d σ H M G δ W N s0 R S hd h k => k _ _ G H W (Same.refl G) R (S.set i hd) h⟩
def agNil : AGs := fun ds δ W N => ds = [] ∧ N δ W
def agCons (t : AG) (u : AGs) : AGs := fun ds δ W N => ∃ d r, ds = d :: r ∧ t d δ W fun δ' W' => u r δ' W' N
theorem dgs_nil : DGs X G0 [] gNil agNil := ⟨pgs_nil, fun xs ds σ H M G δ W N s0 R S hd h k => by
  obtain ⟨rfl, q⟩ := h
  cases hd
  exact ⟨rfl, k _ _ G H W (Same.refl G) R S q⟩⟩
theorem dgs_cons {e : Expr} {es : List Expr} {t : TG} {u : TGs} {at' : AG} {au : AGs} (h1 : DG X G0 e t at') (h2 : DGs X G0 es u au)
    (hs : (assignEach (e :: es) X.env).map (·.2) = assign e X.env :: (assignEach es X.env).map (·.2) := by rfl) : DGs X G0 (e :: es) (gCons t u) (agCons at' au) := ⟨pgs_cons h1.pg h2.pg hs, fun xs ds σ H M G δ W N s0 R S hd h k => by
  obtain ⟨d, r, rfl, q⟩ := h
  obtain ⟨v, r', rfl, q1, q2⟩ := hd
  refine ⟨v, r', rfl, ?_⟩
  refine h1.sim v d σ H _ G δ W _ s0 R S q1 q fun σ' δ' G' H' W' s R' S' q' => ?_
  exact h2.sim r' r σ' H' M G' δ' W' N (s0.trans s) R' S' (IsDs.up s _ _ q2) q' (k.up s)⟩
def agTup (n : Nat) (t : AGs) : AG := fun d δ W N => ∃ ds, d = .tup ds ∧ ds.length = n ∧ t ds δ W N
theorem dg_tup {es : List Expr} {k : Nat} {t : TGs} {at' : AGs} {n : Nat} (hc : X.calm = true) (h : DGs X G0 es t at') (hn : (assignEach es X.env).length = n := by rfl) (hst : (assignEach es X.env).findIdx? (·.1) = none := by rfl) : DG X G0 (.Tuple es k pos) (gTup X.K n t) (agTup n at') := ⟨pg_tup hc h.pg hn hst, fun x d σ H M G δ W N s0 R S hd q k => by
  obtain ⟨ds, rfl, e, q⟩ := q
  obtain ⟨a, vs, rfl, ha, qa⟩ := hd
  exact ⟨a, vs, rfl, SqT.of (R.tup ha), by rw [← qa.length]; exact e, h.sim vs ds σ H M G δ W N s0 R S qa q k⟩⟩
abbrev DSet := D → D → D → Wd → (Wd → Prop) → Prop
def SimSet (K : PySem.W.Frag) (t : TSet) (a : DSet) : Prop := ∀ G H W o i v d e f M N, Rel K G H W → IsD K G d o → IsD K G e i → IsD K G f v → a d e f W N → (∀ H' W', Rel K G H' W' → N W' → M H') → t o i v H M
def agSub (o i : AE) (t : DSet) : AG := fun d δ W N => o δ W fun x W1 => i δ W1 fun y W2 => t x y d W2 fun W3 => N δ W3
theorem dg_sub {o i : Expr} {to ti : TE} {ao ai : AE} {t : TSet} {at' : DSet} (ho : DE X G0 o to ao) (hi : DE X G0 i ti ai) (hs : PSet X t) (hr : SimSet X.K t at')
    (hasg : ∀ v, assign (.Subscript o i pos) X.env v = (do let ov ← holding [v] (eval o X.env); let iv ← holding [v, ov] (eval i X.env); standAt pos; holding [v, ov, iv] (setItem ov iv v); release [v, ov, iv] []) := by intro _; rfl) : DG X G0 (.Subscript o i pos) (gSub to ti t) (agSub ao ai at') := ⟨pg_sub ho.pe hi.pe hs hasg, fun x d σ H M G δ W N s0 R S hd q k => by
  refine ho.sim σ H _ G δ W _ s0 R S q fun v dv G1 H1 W1 s1 R1 d1 h1 => ?_
  refine hi.sim σ H1 _ G1 δ W1 _ (s0.trans s1) R1 (S.up s1) h1 fun u du G2 H2 W2 s2 R2 d2 h2 => ?_
  exact hr G2 H2 W2 v u x dv du d _ _ R2 (IsD.up s2 _ _ d1) d2 (IsD.up (s1.trans s2) _ _ hd) h2 fun H3 W3 R3 h3 => k σ δ G2 H3 W3 (s1.trans s2) R3 (S.up (s1.trans s2)) h3⟩

def aAsg (a : AE) (g : AG) : AS := fun A δ W => a δ W fun x W1 => g x δ W1 A.nx
theorem sim_asg {K : PySem.W.Frag} {g : TG} {ag : AG} (he : SimE K G0 te ae) (hg : SimG K G0 g ag) : SimS K G0 (tAsg te g) (aAsg ae ag) := fun E A σ H G δ W s0 R S eo h => by
  refine he σ H _ G δ W _ s0 R S h fun x d G1 H1 W1 s1 R1 d1 h1 => ?_
  exact hg x d σ H1 _ G1 δ W1 _ (s0.trans s1) R1 (S.up s1) d1 h1 (eo.nx.up s1)
theorem ds_asg {tg : Expr} {g : TG} {ag : AG} (he : DE X G0 e te ae) (hg : DG X G0 tg g ag) (hs : swapsWithSole [tg] e pos.line X.env = pure false := by rfl) (hw : swappedStores [tg] e X.env = pure none := by rfl)
    (h1 : (assignEach [tg] X.env).map (·.2) = [assign tg X.env] := by rfl) : DS X G0 (.Assign [tg] e pos) (tAsg te g) (aAsg ae ag) := ⟨ps_asg he.pe hg.pg hs hw h1, sim_asg he.sim hg.sim⟩
theorem ds_set {i : Nat} {x : Str} {pos' : Pos} (hN : X.N.Nodup) (hi : X.N[i]? = some x) (hx : Loc X.env.scope x) (he : DE X G0 e te ae) (hs : swapsWith e (some (.Name x pos')) pos.line X.env = pure false := by rfl) (hf : X.fn x = true ∨ X.env.scope.names.lookup x = some .local := by first | exact .inl rfl | exact .inr rfl | assumption) :
    DS X G0 (.Assign [.Name x pos'] e pos) (tAsg te (gName i)) (aAsg ae (agName i)) :=
  ⟨ps_set hN hi hx he.pe hs hf, sim_asg he.sim fun x d σ H M G δ W N s0 R S hd h k => k _ _ G H W (Same.refl G) R (S.set i hd) h⟩
/-- name op= e -/
def aAug (i : Nat) (a : AE) (r : RD2) : AS := fun A δ W => ∃ d, δ[i]? = some (some d) ∧ a δ W fun e W1 => r d e W1 fun f W2 => A.nx (δ.set i (some f)) W2
theorem ds_aug {i : Nat} {x : Str} {op : Operator} {ti : TIp} {rd : RD2} {pos' : Pos} (hN : X.N.Nodup) (hi : X.N[i]? = some x) (hx : Loc X.env.scope x) (he : DE X G0 e te ae) (ho : PIp X op ti) (hr : SimR2 X.K ti rd) (hf : X.fn x = true ∨ X.env.scope.names.lookup x = some .local := by first | exact .inl rfl | exact .inr rfl | assumption) :
    DS X G0 (.AugAssign (.Name x pos') op e pos) (tAug i te ti) (aAug i ae rd) := ⟨ps_aug hN hi hx he.pe ho hf, fun E A σ H G δ W s0 R S eo h => by
  obtain ⟨d, e1, q⟩ := h
  obtain ⟨v, e2, q2⟩ := S.get i d e1
  refine ⟨v, e2, ?_⟩
  refine he.sim σ H _ G δ W _ s0 R S q fun x' d' G1 H1 W1 s1 R1 d1 h1 => ?_
  refine hr G1 H1 W1 v x' d d' _ _ R1 (IsD.up s1 _ _ q2) d1 h1 fun z f G2 H2 W2 s2 R2 d2 h2 => ?_
  exact eo.nx _ _ G2 H2 W2 (s1.trans s2) R2 ((S.up (s1.trans s2)).set i d2) h2⟩
theorem sr_ip {K : PySem.W.Frag} {f : Int → Int → Int} : SimR2 K (ipI f) (dI0 fun i j => .int (f i j)) := fun G H W x y dx dy Q QD R hx hy h k => by
  obtain ⟨i, j, rfl, rfl, q⟩ := h
  exact ⟨i, j, hx, hy, k.here (d := .int _) R rfl q⟩

/-- what is walked: its items, what the world must keep meanwhile -/
abbrev AI := Sl → Wd → (List D → (Wd → Prop) → Wd → Prop) → Prop
structure Walks (K : PySem.W.Frag) (G : Hp) (J : It) (items : List D) (ok : Wd → Prop) : Prop where
  go : ∀ i G' H W, Same G G' → Rel K G' H W → ok W → i < items.length → J.go i H
  stop : ∀ i G' H W, Same G G' → Rel K G' H W → ok W → items.length ≤ i → J.stop i H
  yld : ∀ i G' H W x H', Same G G' → Rel K G' H W → ok W → i < items.length → J.yld i H x H' → ∃ d G'', items[i]? = some d ∧ Same G' G'' ∧ Rel K G'' H' W ∧ IsD K G'' d x
theorem Walks.up {K : PySem.W.Frag} {G G1 : Hp} {J : It} {items : List D} {ok : Wd → Prop} (s : Same G G1) (h : Walks K G J items ok) : Walks K G1 J items ok :=
  ⟨fun i G' H W s' => h.go i G' H W (s.trans s'), fun i G' H W s' => h.stop i G' H W (s.trans s'), fun i G' H W x H' s' => h.yld i G' H W x H' (s.trans s')⟩
def SimI (K : PySem.W.Frag) (G0 : Hp) (wi : TI) (a : AI) : Prop := ∀ σ H M G δ W N, Same G0 G → Rel K G H W → IsSl K G δ σ → a δ W N →
  (∀ J items ok G' H' W', Same G G' → Rel K G' H' W' → Walks K G' J items ok → N items ok W' → M J H') → wi σ H M
structure DI (X : Cx) (G0 : Hp) (tg it : Expr) (wi : TI) (a : AI) : Prop where
  pi : PI X tg it wi
  sim : SimI X.K G0 wi a
def forL (g : AG) (b : AS) (A : AEnds) (ok : Wd → Prop) : List D → Sl → Wd → Prop
  | [], δ, W => ok W ∧ A.nx δ W
  | d :: ds, δ, W => ok W ∧ g d δ W fun δ' W' => b { A with nx := fun δ W => forL g b A ok ds δ W, ct := fun δ W => forL g b A ok ds δ W, bk := A.nx } δ' W'
def aFor (ai : AI) (g : AG) (b : AS) : AS := fun A δ W => ai δ W fun items ok W1 => forL g b A ok items δ W1
theorem sim_for {K : PySem.W.Frag} {wi : TI} {ai : AI} {g : TG} {ag : AG} {tb : TS} {ab : AS} (hi : SimI K G0 wi ai) (hg : SimG K G0 g ag) (hb : SimS K G0 tb ab) : SimS K G0 (tFor wi g tb) (aFor ai ag ab) := fun E A σ H G δ W s0 R S eo h => by
  refine hi σ H _ G δ W _ s0 R S h fun J items ok G1 H1 W1 s1 R1 wk h1 => ?_
  refine ⟨fun i m σ H => m = items.length - i ∧ i ≤ items.length ∧ ∃ G2 δ2 W2, Same G1 G2 ∧ Rel K G2 H W2 ∧ IsSl K G2 δ2 σ ∧ forL ag ab A ok (items.drop i) δ2 W2,
    ⟨_, rfl, Nat.zero_le _, G1, δ, W1, Same.refl G1, R1, S.up s1, by simpa using h1⟩, ?_⟩
  rintro i m σ2 H2 ⟨rfl, hle, G2, δ2, W2, s2, R2, S2, h2⟩
  by_cases hlt : i < items.length
  · rw [List.drop_eq_getElem_cons hlt] at h2
    obtain ⟨hok, q⟩ := h2
    refine .inr ⟨wk.go i G2 H2 W2 s2 R2 hok hlt, fun σ' H' => ∃ G3 δ3 W3, Same G1 G3 ∧ Rel K G3 H' W3 ∧ IsSl K G3 δ3 σ' ∧ forL ag ab A ok (items.drop (i + 1)) δ3 W3, fun σ' H' q' => ⟨items.length - (i + 1), by omega, rfl, by omega, q'⟩, fun x H' hy => ?_⟩
    obtain ⟨d, G3, e3, s3, R3, d3⟩ := wk.yld i G2 H2 W2 x H' s2 R2 hok hlt hy
    rw [List.getElem?_eq_getElem hlt] at e3
    cases e3
    refine hg x _ σ2 H' _ G3 δ2 W2 _ (s0.trans (s1.trans (s2.trans s3))) R3 (S2.up s3) d3 q fun σ4 δ4 G4 H4 W4 s4 R4 S4 q4 => ?_
    have s5 := s2.trans (s3.trans s4)
    have nx : KontS K G4 (fun δ W => forL ag ab A ok (items.drop (i + 1)) δ W) (fun σ' H' => ∃ G3 δ3 W3, Same G1 G3 ∧ Rel K G3 H' W3 ∧ IsSl K G3 δ3 σ' ∧ forL ag ab A ok (items.drop (i + 1)) δ3 W3) :=
      fun σ' δ' G' H' W' s' R' S' q' => ⟨G', δ', W', s5.trans s', R', S', q'⟩
    exact hb _ { A with nx := fun δ W => forL ag ab A ok (items.drop (i + 1)) δ W, ct := fun δ W => forL ag ab A ok (items.drop (i + 1)) δ W, bk := A.nx } σ4 H4 G4 δ4 W4 (s0.trans (s1.trans s5)) R4 S4 ⟨nx, eo.rt.up (s1.trans s5), eo.nx.up (s1.trans s5), nx⟩ q4
  · have e : i = items.length := by omega
    subst e
    rw [List.drop_length] at h2
    exact .inl ⟨wk.stop _ G2 H2 W2 s2 R2 h2.1 (Nat.le_refl _), eo.nx σ2 δ2 G2 H2 W2 (s1.trans s2) R2 S2 h2.2⟩
theorem ds_for {tg it : Expr} {body : List Stmt} {wi : TI} {ai : AI} {g : TG} {ag : AG} {tb : TS} {ab : AS} (hp : PassesOwn (model X.prog X.w) X.A X.env X.xe) (hc : X.calm = true) (hi : DI X G0 tg it wi ai) (hg : DG X G0 tg g ag) (hb : DSs X G0 body tb ab)
    (hs : ∀ x, foldedSetIterable it X.env x = pure x := by intro _; rfl) : DS X G0 (.For tg it body [] pos) (tFor wi g tb) (aFor ai ag ab) := ⟨ps_for hp hc hi.pi hg.pg hb.ps hs, sim_for hi.sim hg.sim hb.sim⟩
variable {tg : Expr}
/-- a list: for good, foreign, or owned and left as it is meanwhile -/
def okOf (d : D) (ds : List D) : Wd → Prop := fun W => match d with
  | .ptr l => W l = some (.lst ds)
  | _ => True
theorem lstRd_later {K : PySem.W.Frag} {G G' H H' : Hp} {W W' : Wd} {d : D} {a : Addr} {ds : List D} (R : Rel K G H W) (s : Same G G') (R' : Rel K G' H' W') (hd : IsD K G d (.ref a)) (e : lstRd W d = some ds) (ok : okOf d ds W') : ∃ vs, SqL K H' a vs ∧ IsDs K G' ds vs := by
  have e' : lstRd W' d = some ds := by
    cases d with
    | ptr l => exact lstRd_ptr ok
    | lst _ => exact e
    | flst _ => exact e
    | _ => cases e
  obtain ⟨a', vs, ea, h1, h2⟩ := lstRd_at R' (IsD.up s _ _ hd) e'
  cases ea
  exact ⟨vs, h1, h2⟩
theorem walks_list {K : PySem.W.Frag} {G H : Hp} {W : Wd} {d : D} {a : Addr} {ds : List D} (R : Rel K G H W) (hd : IsD K G d (.ref a)) (e : lstRd W d = some ds) : Walks K G (Itl K a) ds (okOf d ds) := by
  refine ⟨fun i G' H' W' s R' ok hi => ?_, fun i G' H' W' s R' ok hi => ?_, fun i G' H' W' x H2 s R' ok hi hy => ?_⟩
  · obtain ⟨vs, h1, h2⟩ := lstRd_later R s R' hd e ok
    have hl : i < vs.length := by rw [← h2.length]; exact hi
    exact ⟨vs, vs[i], h1, List.getElem?_eq_getElem hl⟩
  · obtain ⟨vs, h1, h2⟩ := lstRd_later R s R' hd e ok
    exact ⟨vs, h1, by rw [← h2.length]; exact hi⟩
  · obtain ⟨vs, h1, h2⟩ := lstRd_later R s R' hd e ok
    obtain ⟨rfl, hy⟩ := hy
    have e1 := hy vs h1
    obtain ⟨v, e2, q⟩ := h2.get (List.getElem?_eq_getElem hi)
    rw [e1] at e2
    cases e2
    exact ⟨ds[i], G', List.getElem?_eq_getElem hi, Same.refl _, R', q⟩
end
end DL

namespace DL
open PySem PySem.Spec PyProof.Rows L2
section
variable {X : Cx} {G0 : Hp} {tg e : Expr} {te : TE} {ae : AE} {pos p : Pos}

def iSeq (K : PySem.W.Frag) (tl : TE) : TI := fun σ H M => tl σ H fun x H1 => (∃ a, x = .ref a ∧ (∃ xs, SqL K H1 a xs) ∧ M (Itl K a) H1) ∨ (∃ a, x = .ref a ∧ (∃ xs, SqT K H1 a xs) ∧ M (Itt K a) H1) ∨ (∃ z, x = .str z ∧ M (Its z) H1)
theorem pi_seq (hl : PE X e te) : PI X tg e (iSeq X.K te) := ⟨fun pins s σ H M I h => thn (hl.run pins s σ H _ I h) fun v s1 ⟨x, H1, I1, r1, q1⟩ => by
  have fp : ∀ b ∈ [s1.heap.objs.size], FpOk X pins H1 b := fun b hb => by
    cases List.mem_singleton.mp hb
    exact I1.fpOk (Nat.le_refl _) (I1.hok.fresh (Nat.le_refl _))
  rcases q1 with ⟨a, e1, ⟨xs, hq⟩, q⟩ | ⟨a, e1, ⟨xs, hq⟩, q⟩ | ⟨z, e1, q⟩
  · subst e1
    cases r1
    obtain ⟨its, rv, pl, _⟩ := I1.list hq
    exact wpAny_pyIter_list pl.isList ⟨_, _, _, _, H1, rfl, I1.kept (t' := s1.toks) fun b o e => Heap.get?_push_of_some _ e, turn_list a _, ⟨_, Heap.get?_push_size _ rfl, rfl, rfl⟩, fp, q⟩
  · subst e1
    cases r1
    obtain ⟨its, rv, pl, _⟩ := I1.tuple hq
    exact wpAny_pyIter_tuple pl ⟨_, _, _, _, H1, rfl, I1.kept (t' := s1.toks) fun b o e => Heap.get?_push_of_some _ e, turn_tuple a _, ⟨_, Heap.get?_push_size _ rfl, rfl, rfl⟩, fp, q⟩
  · subst e1
    obtain ⟨t, rfl⟩ := r1
    cases ha : z.cps.all (· < 128)
    · exact wpAny_pyIter_wide ha (pi_one (tk := s1.toks) I1 _ (turn_str _ z t "str_iterator" (.inr rfl)) ⟨_, Heap.get?_push_size _ rfl, rfl, rfl⟩ q)
    · exact wpAny_pyIter_ascii ha (pi_one (tk := s1.toks) I1 _ (turn_str _ z t "str_ascii_iterator" (.inl rfl)) ⟨_, Heap.get?_push_size _ rfl, rfl, rfl⟩ q)⟩
def signsOf (z : Str) : List D := z.cps.toList.map fun c => D.str ⟨#[c]⟩
def walkD (d : D) (W1 : Wd) (N : List D → (Wd → Prop) → Wd → Prop) : Prop := match d with
  | .tup ds => N ds (fun _ => True) W1
  | .str z => N (signsOf z) (fun _ => True) W1
  | d => ∃ ds, lstRd W1 d = some ds ∧ N ds (okOf d ds) W1
def aiSeq (a : AE) : AI := fun δ W N => a δ W fun d W1 => walkD d W1 N
theorem walks_tup {K : PySem.W.Frag} {G : Hp} {a : Addr} {vs : List V} {ds : List D} (ha : G a = some (.tup vs)) (qa : IsDs K G ds vs) : Walks K G (Itt K a) ds (fun _ => True) := by
  refine ⟨fun i G' H' W' s R' ok hi => ?_, fun i G' H' W' s R' ok hi => ?_, fun i G' H' W' x H2 s R' ok hi hy => ?_⟩
  · exact ⟨vs, vs[i]'(by rw [← qa.length]; exact hi), SqT.of (R'.tup (s.at ha rfl rfl)), List.getElem?_eq_getElem _⟩
  · exact ⟨vs, SqT.of (R'.tup (s.at ha rfl rfl)), by rw [← qa.length]; exact hi⟩
  · obtain ⟨rfl, hy⟩ := hy
    have e1 := hy vs (SqT.of (R'.tup (s.at ha rfl rfl)))
    obtain ⟨v, e2, q⟩ := qa.get (List.getElem?_eq_getElem hi)
    rw [e1] at e2
    cases e2
    exact ⟨ds[i], G', List.getElem?_eq_getElem hi, Same.refl _, R', IsD.up s _ _ q⟩
theorem walks_str {K : PySem.W.Frag} {G : Hp} {z : Str} : Walks K G (Its z) (signsOf z) (fun _ => True) := by
  have hl : (signsOf z).length = z.cps.size := by unfold signsOf; rw [List.length_map, Array.length_toList]
  refine ⟨fun i G' H' W' s R' ok hi => by rw [hl] at hi; exact hi, fun i G' H' W' s R' ok hi => by rw [hl] at hi; exact hi, fun i G' H' W' x H2 s R' ok hi hy => ?_⟩
  obtain ⟨rfl, c, e, rfl⟩ := hy
  exact ⟨.str ⟨#[c]⟩, G', by unfold signsOf; simp [e], Same.refl _, R', rfl⟩
theorem di_seq (he : DE X G0 e te ae) : DI X G0 tg e (iSeq X.K te) (aiSeq ae) := ⟨pi_seq he.pe, fun σ H M G δ W N s0 R S h k => by
  refine he.sim σ H _ G δ W _ s0 R S h fun x d G1 H1 W1 s1 R1 d1 h1 => ?_
  cases d with
  | tup ds =>
    obtain ⟨a, vs, rfl, ha, qa⟩ := d1
    exact .inr (.inl ⟨a, rfl, ⟨vs, SqT.of (R1.tup ha)⟩, k _ ds _ G1 H1 W1 s1 R1 (walks_tup ha qa) h1⟩)
  | str z => exact .inr (.inr ⟨z, d1, k _ _ _ G1 H1 W1 s1 R1 walks_str h1⟩)
  | lst ds =>
    obtain ⟨es, e1, q⟩ := h1
    obtain ⟨a, vs, rfl, ha, qa⟩ := lstRd_at R1 d1 e1
    exact .inl ⟨a, rfl, ⟨vs, ha⟩, k _ es _ G1 H1 W1 s1 R1 (walks_list R1 d1 e1) q⟩
  | flst ds =>
    obtain ⟨es, e1, q⟩ := h1
    obtain ⟨a, vs, rfl, ha, qa⟩ := lstRd_at R1 d1 e1
    exact .inl ⟨a, rfl, ⟨vs, ha⟩, k _ es _ G1 H1 W1 s1 R1 (walks_list R1 d1 e1) q⟩
  | ptr l =>
    obtain ⟨es, e1, q⟩ := h1
    obtain ⟨a, vs, rfl, ha, qa⟩ := lstRd_at R1 d1 e1
    exact .inl ⟨a, rfl, ⟨vs, ha⟩, k _ es _ G1 H1 W1 s1 R1 (walks_list R1 d1 e1) q⟩
  | non => obtain ⟨es, e1, q⟩ := h1; cases e1
  | bl _ => obtain ⟨es, e1, q⟩ := h1; cases e1
  | int _ => obtain ⟨es, e1, q⟩ := h1; cases e1
  | ty _ => obtain ⟨es, e1, q⟩ := h1; cases e1
  | dk _ => obtain ⟨es, e1, q⟩ := h1; cases e1
  | dt _ => obtain ⟨es, e1, q⟩ := h1; cases e1
  | fobj _ _ => obtain ⟨es, e1, q⟩ := h1; cases e1⟩

def rangeD (lo : Int) (n : Nat) : List D := (List.range n).map fun i => D.int (lo + (i : Nat))
theorem rangeD_length (lo : Int) (n : Nat) : (rangeD lo n).length = n := by unfold rangeD; rw [List.length_map, List.length_range]
theorem walks_range {K : PySem.W.Frag} {G : Hp} {lo : Int} {n : Nat} : Walks K G (Itr lo n) (rangeD lo n) (fun _ => True) := by
  refine ⟨fun i G' H' W' s R' ok hi => by rw [rangeD_length] at hi; exact hi, fun i G' H' W' s R' ok hi => by rw [rangeD_length] at hi; exact hi, fun i G' H' W' x H2 s R' ok hi hy => ?_⟩
  obtain ⟨rfl, rfl⟩ := hy
  rw [rangeD_length] at hi
  exact ⟨.int (lo + (i : Nat)), G', by unfold rangeD; simp [hi], Same.refl _, R', rfl⟩
variable {ta : L2.TA} {aa : AA} {a b c : Expr}
def aiRng1 (t : AA) : AI := fun δ W N => t δ W fun ds W1 => ∃ j : Int, ds = [.int j] ∧ (-(2 ^ 62) ≤ j ∧ j < 2 ^ 62) ∧ N (rangeD 0 j.toNat) (fun _ => True) W1
def aiRng2 (t : AA) : AI := fun δ W N => t δ W fun ds W1 => ∃ i j : Int, ds = [.int i, .int j] ∧ (-(2 ^ 62) ≤ i ∧ i < 2 ^ 62 ∧ -(2 ^ 62) ≤ j ∧ j < 2 ^ 62) ∧ N (rangeD i (j - i).toNat) (fun _ => True) W1
theorem di_range1 (hg : Gl X "range") (hm : X.mg "range" = none) (ha : DA X G0 [a] ta aa) (hs : starEach [a] X.env = [(false, eval a X.env)] := by rfl) : DI X G0 tg (.Call (.Name "range" p) [a] [] pos) (iRng1 ta) (aiRng1 aa) := ⟨pi_range1 hg hm ha.pa hs, fun σ H M G δ W N s0 R S h k => by
  refine ha.sim σ H _ G δ W _ s0 R S h fun vs ds G1 H1 W1 s1 R1 d1 h1 => ?_
  obtain ⟨j, rfl, ⟨b1, b2⟩, q⟩ := h1
  obtain ⟨v, rfl, hv⟩ := one_of d1
  cases (show v = _ from hv)
  exact ⟨j, rfl, b1, b2, k _ _ _ G1 H1 W1 s1 R1 walks_range q⟩⟩
theorem di_range2 (hg : Gl X "range") (hm : X.mg "range" = none) (ha : DA X G0 [a, b] ta aa) (hs : starEach [a, b] X.env = [(false, eval a X.env), (false, eval b X.env)] := by rfl) (hs2 : starEach [b] X.env = [(false, eval b X.env)] := by rfl) : DI X G0 tg (.Call (.Name "range" p) [a, b] [] pos) (iRng2 ta) (aiRng2 aa) := ⟨pi_range2 hg hm ha.pa hs hs2, fun σ H M G δ W N s0 R S h k => by
  refine ha.sim σ H _ G δ W _ s0 R S h fun vs ds G1 H1 W1 s1 R1 d1 h1 => ?_
  obtain ⟨i, j, rfl, bs, q⟩ := h1
  obtain ⟨v, u, rfl, hv, hu⟩ := two_of d1
  cases (show v = _ from hv)
  cases (show u = _ from hu)
  exact ⟨i, j, rfl, bs, k _ _ _ G1 H1 W1 s1 R1 walks_range q⟩⟩

def wipeD (δ : Sl) : List Nat → Sl
  | [] => δ
  | v :: vs => (wipeD δ vs).set v none
theorem IsSl.wipe {K : PySem.W.Frag} {G : Hp} {δ : Sl} {σ : L2.St} (S : IsSl K G δ σ) : ∀ vs : List Nat, IsSl K G (wipeD δ vs) (wipe σ vs)
  | [] => S
  | v :: vs => by
    have ih := S.wipe vs
    refine ⟨by unfold wipeD L2.wipe; rw [List.length_set, List.length_set, ih.len], fun i d e => ?_⟩
    unfold wipeD at e
    unfold L2.wipe
    by_cases hi : v = i
    · subst hi
      rw [List.getElem?_set, if_pos rfl] at e
      split at e <;> cases e
    · rw [List.getElem?_set_ne hi] at e ⊢
      exact ih.get i d e
/-- the turns of a comprehension whose list is owned at L -/
def lcL (g : AG) (t : AT) (e : AE) (ok : Wd → Prop) (δ : Sl) (L : Addr) (Q : Wd → Prop) : List D → Wd → Prop
  | [], W => ok W ∧ Q W
  | d :: ds, W => ok W ∧ g d δ W fun δ' W' => t δ' W' fun k W2 => if k = true then e δ' W2 fun y W3 => ∃ acc, W3 L = some (.lst acc) ∧ acc.length < sizeLine ∧ lcL g t e ok δ L Q ds (W3.set L (.lst (acc ++ [y]))) else lcL g t e ok δ L Q ds W2
def lcE (own : Bool) (g : AG) (t : AT) (e : AE) (ok : Wd → Prop) (δ : Sl) (items : List D) (W : Wd) (Q : DQ) : Prop := ∀ L, W L = none → lcL g t e ok δ L (fun W2 => ∃ acc, W2 L = some (.lst acc) ∧ (if own = true then Q (.ptr L) W2 else Q (.lst acc) (W2.del L))) items (W.set L (.lst []))
def aLc (own : Bool) (ai : AI) (g : AG) (t : AT) (e : AE) (vs : List Nat) : AE := fun δ W Q => ai δ W fun items ok W1 => lcE own g t e ok (wipeD δ vs) items W1 Q
def aYes : AT := fun _ W Q => Q true W
theorem sim_lc {K : PySem.W.Frag} {own : Bool} {wi : TI} {ai : AI} {g : TG} {ag : AG} {tt : TT} {at' : AT} {vs : List Nat} (hi : SimI K G0 wi ai) (hg : SimG K G0 g ag) (ht : SimT K G0 tt at') (he : SimE K G0 te ae)
    (hw : ∀ x σ H N, g x (wipe σ vs) H N → g x (wipe σ vs) H fun σ' H' => wipe σ' vs = wipe σ vs ∧ N σ' H') : SimE K G0 (tLc wi g tt te vs) (aLc own ai ag at' ae vs) := fun σ H Q G δ W QD s0 R S h k => by
  refine hi σ H _ G δ W _ s0 R S h fun J items ok G1 H1 W1 s1 R1 wk h1 L hL => ?_
  have q0 := h1 L (R1.freeW hL)
  refine ⟨fun i m H => m = items.length - i ∧ i ≤ items.length ∧ ∃ G2 W2, Same G1 G2 ∧ Rel K G2 H W2 ∧ lcL ag at' ae ok (wipeD δ vs) L (fun W2 => ∃ acc, W2 L = some (.lst acc) ∧ (if own = true then QD (.ptr L) W2 else QD (.lst acc) (W2.del L))) (items.drop i) W2,
    ⟨_, rfl, Nat.zero_le _, G1, _, Same.refl G1, R1.newOwn (m := .lst []) hL ⟨[], rfl, rfl⟩, by simpa using q0⟩, ?_⟩
  rintro i m H2 ⟨rfl, hle, G2, W2, s2, R2, h2⟩
  by_cases hlt : i < items.length
  · rw [List.drop_eq_getElem_cons hlt] at h2
    obtain ⟨hok, q⟩ := h2
    refine .inr ⟨wk.go i G2 H2 W2 s2 R2 hok hlt, fun H' => ∃ G3 W3, Same G1 G3 ∧ Rel K G3 H' W3 ∧ lcL ag at' ae ok (wipeD δ vs) L (fun W2 => ∃ acc, W2 L = some (.lst acc) ∧ (if own = true then QD (.ptr L) W2 else QD (.lst acc) (W2.del L))) (items.drop (i + 1)) W3, fun H' q' => ⟨items.length - (i + 1), by omega, rfl, by omega, q'⟩, fun x H' hy => ?_⟩
    obtain ⟨d, G3, e3, s3, R3, d3⟩ := wk.yld i G2 H2 W2 x H' s2 R2 hok hlt hy
    rw [List.getElem?_eq_getElem hlt] at e3
    cases e3
    have s03 := s0.trans (s1.trans (s2.trans s3))
    refine hw x σ H' _ (hg x _ _ H' _ G3 _ W2 _ s03 R3 ((S.up (s1.trans (s2.trans s3))).wipe vs) d3 q fun σ4 δ4 G4 H4 W4 s4 R4 S4 q4 => ?_)
    refine ht σ4 H4 _ G4 δ4 W4 _ (s03.trans s4) R4 S4 q4 fun b G5 H5 W5 s5 R5 q5 => ?_
    cases b with
    | false => exact iteF ⟨G5, W5, s2.trans (s3.trans (s4.trans s5)), R5, by simpa using q5⟩
    | true =>
      refine iteT (he σ4 H5 _ G5 δ4 W5 _ (s03.trans (s4.trans s5)) R5 (S4.up s5) (by simpa using q5) fun y dy G6 H6 W6 s6 R6 d6 h6 => ?_)
      obtain ⟨acc, e6, z6, q6⟩ := h6
      obtain ⟨_, o, e7, us, e8, e9⟩ := R6.own _ _ e6
      subst e8
      refine ⟨us, e7, by rw [← e9.length]; exact z6, G6, _, s2.trans (s3.trans (s4.trans (s5.trans s6))), R6.put (m := .lst (acc ++ [dy])) e6 ⟨us ++ [y], rfl, e9.append ⟨y, [], rfl, d6, rfl⟩⟩, q6⟩
  · have e : i = items.length := by omega
    subst e
    rw [List.drop_length] at h2
    obtain ⟨hok, acc, e2, q⟩ := h2
    refine .inl ⟨wk.stop _ G2 H2 W2 s2 R2 hok (Nat.le_refl _), ?_⟩
    cases own with
    | true => exact (k.up (s1.trans s2)).here (d := .ptr L) R2 rfl (by simpa using q)
    | false =>
      obtain ⟨o, e7, ⟨us, e8, e9⟩, s3, R3⟩ := R2.freeze e2
      subst e8
      exact k _ (.lst acc) _ _ _ (s1.trans (s2.trans s3)) R3 ⟨L, us, rfl, upd_same, IsDs.up s3 _ _ e9⟩ (by simpa using q)
theorem wipe_name {i : Nat} (x : V) (σ : L2.St) (H : Hp) (N : L2.St → Hp → Prop) (h : gName i x (wipe σ [i]) H N) : gName i x (wipe σ [i]) H fun σ' H' => wipe σ' [i] = wipe σ [i] ∧ N σ' H' := ⟨by simp [L2.wipe], h⟩
/-- the parts of a comprehension's block -/
structure DC (X : Cx) (G0 : Hp) (scope : Scope) (tg : Expr) (ifs : List Expr) (elt : Expr) (g : TG) (tt : TT) (te : TE) (ag : AG) (at' : AT) (ae : AE) : Prop where
  pg : ∀ (s : Shared) (H : Hp) (C : Addr) (cl : List (Str × Addr)) (fp : List Addr), PG (X.blk s H scope (compEnvC scope cl C X.env) fp) tg g
  pt : ∀ (s : Shared) (H : Hp) (C : Addr) (cl : List (Str × Addr)) (fp : List Addr), PTs (X.blk s H scope (compEnvC scope cl C X.env) fp) ifs tt
  pe : ∀ (s : Shared) (H : Hp) (C : Addr) (cl : List (Str × Addr)) (fp : List Addr), PE (X.blk s H scope (compEnvC scope cl C X.env) fp) elt te
  sg : SimG X.K G0 g ag
  st : SimT X.K G0 tt at'
  se : SimE X.K G0 te ae
structure DTs (X : Cx) (G0 : Hp) (es : List Expr) (t : TT) (a : AT) : Prop where
  pt : PTs X es t
  sim : SimT X.K G0 t a
theorem dts_nil : DTs X G0 [] tYes aYes := ⟨pts_nil, fun σ H Q G δ W QD s0 R S h k => k true G H W (Same.refl G) R h⟩
theorem dts_one {c : Expr} {t : TT} {a' : AT} (h : DT X G0 c t a') : DTs X G0 [c] t a' := ⟨pts_one h.pt, h.sim⟩
theorem dc_of {scope : Scope} {ifs : List Expr} {elt : Expr} {g : TG} {tt : TT} {ag : AG} {at' : AT}
    (hg : ∀ (s : Shared) (H : Hp) (C : Addr) (cl : List (Str × Addr)) (fp : List Addr), DG (X.blk s H scope (compEnvC scope cl C X.env) fp) G0 tg g ag)
    (ht : ∀ (s : Shared) (H : Hp) (C : Addr) (cl : List (Str × Addr)) (fp : List Addr), DTs (X.blk s H scope (compEnvC scope cl C X.env) fp) G0 ifs tt at')
    (he : ∀ (s : Shared) (H : Hp) (C : Addr) (cl : List (Str × Addr)) (fp : List Addr), DE (X.blk s H scope (compEnvC scope cl C X.env) fp) G0 elt te ae) : DC X G0 scope tg ifs elt g tt te ag at' ae :=
  ⟨fun s H C cl fp => (hg s H C cl fp).pg, fun s H C cl fp => (ht s H C cl fp).pt, fun s H C cl fp => (he s H C cl fp).pe, (hg X.s_0 X.H_0 0 [] []).sim, (ht X.s_0 X.H_0 0 [] []).sim, (he X.s_0 X.H_0 0 [] []).sim⟩
theorem de_lc (own' : Bool) {elt iter : Expr} {ifs : List Expr} {scope : Scope} {own : List (Str × Nat)} {wi : TI} {ai : AI} {g : TG} {tt : TT} {ag : AG} {at' : AT} (hc : X.calm = true) (hN : X.N.Nodup) (hi : DI X G0 tg iter wi ai) (ok : BlkOk X.N X.env.scope scope own)
    (hd : DC X G0 scope tg ifs elt g tt te ag at' ae) (hw : ∀ x σ H N, g x (wipe σ (own.map (·.2))) H N → g x (wipe σ (own.map (·.2))) H fun σ' H' => wipe σ' (own.map (·.2)) = wipe σ (own.map (·.2)) ∧ N σ' H') (hs : ∀ x, foldedSetIterable iter X.env x = pure x := by intro _; rfl) :
    DE X G0 (.ListComp elt [⟨tg, iter, ifs, 0⟩] scope pos) (tLc wi g tt te (own.map (·.2))) (aLc own' ai ag at' ae (own.map (·.2))) := ⟨pe_lc hc hN hi.pi ok hd.pg hd.pt hd.pe hs, sim_lc hi.sim hd.sg hd.st hd.se hw⟩
theorem ds_setLc (own' : Bool) {i : Nat} {y : Str} {py : Pos} {elt iter : Expr} {ifs : List Expr} {scope : Scope} {own : List (Str × Nat)} {spos : Pos} {wi : TI} {ai : AI} {g : TG} {tt : TT} {ag : AG} {at' : AT} (hc : X.calm = true) (hN : X.N.Nodup) (hy : X.N[i]? = some y) (hyl : X.env.scope.names.lookup y = some .local)
    (hsw : swapsWith (.ListComp elt [⟨tg, iter, ifs, 0⟩] scope pos) (some (.Name y py)) spos.line X.env = pure true) (hi : DI X G0 tg iter wi ai) (ok : BlkOk X.N X.env.scope scope own)
    (hd : DC X G0 scope tg ifs elt g tt te ag at' ae) (hw : ∀ x σ H N, g x (wipe σ (own.map (·.2))) H N → g x (wipe σ (own.map (·.2))) H fun σ' H' => wipe σ' (own.map (·.2)) = wipe σ (own.map (·.2)) ∧ N σ' H') (hs : ∀ x, foldedSetIterable iter X.env x = pure x := by intro _; rfl) :
    DS X G0 (.Assign [.Name y py] (.ListComp elt [⟨tg, iter, ifs, 0⟩] scope pos) spos) (tAsg (tLc wi g tt te (own.map (·.2))) (gName i)) (aAsg (aLc own' ai ag at' ae (own.map (·.2))) (agName i)) :=
  ⟨ps_setLc hc hN hy hyl hsw hi.pi ok hd.pg hd.pt hd.pe hs, sim_asg (sim_lc hi.sim hd.sg hd.st hd.se hw) fun x d σ H M G δ W N s0 R S hd h k => k _ _ G H W (Same.refl G) R (S.set i hd) h⟩
end
end DL

namespace DL
open PySem PySem.Spec PyProof.Rows L2
abbrev RDM := D → List D → Wd → DQ → Prop
def SimM (K : PySem.W.Frag) (r : V → List V → Hp → VK → Prop) (a : RDM) : Prop := ∀ G H W x dx xs ds Q QD, Rel K G H W → IsD K G dx x → IsDs K G ds xs → a dx ds W QD → Kont K G QD Q → r x xs H Q
section
variable {X : Cx} {G0 : Hp} {o e : Expr} {es : List Expr} {to te : TE} {ao ae : AE} {t : L2.TA} {at' : AA} {name : Str} {apos cpos pos : Pos} {T id : String} {r : V → List V → Hp → VK → Prop} {rd : RDM}
def aBM (ty : D → Wd → Prop) (r : RDM) (o : AE) (t : AA) : AE := fun δ W Q => o δ W fun x W1 => ty x W1 ∧ t δ W1 fun ds W2 => r x ds W2 Q
theorem sim_bm {K : PySem.W.Frag} {ty : D → Wd → Prop} (hty : ∀ G H W d v, Rel K G H W → IsD K G d v → ty d W → tyV K T v H) (hr : SimM K r rd) (ho : SimE K G0 to ao) (ht : SimA K G0 t at') : SimE K G0 (tBM K T r to t) (aBM ty rd ao at') := fun σ H Q G δ W QD s0 R S h k => by
  refine ho σ H _ G δ W _ s0 R S h fun x dx G1 H1 W1 s1 R1 d1 h1 => ⟨hty G1 H1 W1 dx x R1 d1 h1.1, ?_⟩
  refine ht σ H1 _ G1 δ W1 _ (s0.trans s1) R1 (S.up s1) h1.2 fun xs ds G2 H2 W2 s2 R2 d2 h2 => ?_
  exact hr G2 H2 W2 x dx xs ds Q QD R2 (IsD.up s2 _ _ d1) d2 h2 (k.up (s1.trans s2))
def tyL : D → Wd → Prop := fun d W => ∃ ds, lstRd W d = some ds
theorem tyL_ok {K : PySem.W.Frag} (G H : Hp) (W : Wd) (d : D) (v : V) (R : Rel K G H W) (hd : IsD K G d v) (h : tyL d W) : tyV K "list" v H := by
  obtain ⟨ds, e⟩ := h
  obtain ⟨a, vs, rfl, ha, _⟩ := lstRd_at R hd e
  exact .inl ⟨rfl, vs, ha⟩
theorem de_lm (slot : Slot "list" name id) (hty : typeOf (.builtin id) = pure (.type "method_descriptor")) (hm : MtR X id r) (hr : SimM X.K r rd) (ho : DE X G0 o to ao) (ha : DA X G0 (e :: es) t at')
    (hbase : attributeBase o name X.env (eval o X.env) = eval o X.env := by rfl)
    (hfew : ((backTo cpos (starEach (e :: es) X.env)).all (fun x => !x.1) && (backToKw cpos (keywordEach [] X.env)).all (fun x => x.1.isSome) && decide ((e :: es).length + ([] : List Keyword).length + (if ([] : List Keyword).isEmpty then 0 else 1) < 30)) = true := by rfl)
    (hline : (apos.endLine == cpos.line) = true := by rfl) (hs : starEach (e :: es) X.env = (false, eval e X.env) :: starEach es X.env := by rfl) (hplain : (backTo cpos (starEach es X.env)).any (·.1) = false := by rfl) :
    DE X G0 (.Call (.Attribute o name apos) (e :: es) [] cpos) (tBM X.K "list" r to t) (aBM tyL rd ao at') := ⟨pe_bm PySem.F.plainAttrs_list slot hty hm ho.pe ha.pa hbase hfew hline hs hplain, sim_bm tyL_ok hr ho.sim ha.sim⟩
def dAppend : RDM := fun x vs W Q => ∃ l ds d, x = .ptr l ∧ vs = [d] ∧ W l = some (.lst ds) ∧ ds.length < sizeLine ∧ Q .non (W.set l (.lst (ds ++ [d])))
def dExtend : RDM := fun x vs W Q => ∃ l ds d es, x = .ptr l ∧ vs = [d] ∧ W l = some (.lst ds) ∧ lstOf W d = some es ∧ ds.length + es.length ≤ sizeLine ∧ Q .non (W.set l (.lst (ds ++ es)))
theorem owned_at {K : PySem.W.Frag} {G H : Hp} {W : Wd} {l : Addr} {ds : List D} (R : Rel K G H W) (h : W l = some (.lst ds)) : ∃ vs, H l = some (.lst vs) ∧ IsDs K G ds vs := by
  obtain ⟨_, o, e1, vs, e2, e3⟩ := R.own _ _ h
  subst e2
  exact ⟨vs, e1, e3⟩
theorem sm_append {K : PySem.W.Frag} : SimM K rAppend dAppend := fun G H W x dx xs ds Q QD R hx hds h k => by
  obtain ⟨l, cs, d, rfl, rfl, hw, z, q⟩ := h
  obtain ⟨v, rfl, hv⟩ := one_of hds
  obtain ⟨vs, e1, e3⟩ := owned_at R hw
  cases (show x = _ from hx)
  exact ⟨l, vs, v, rfl, rfl, e1, by rw [← e3.length]; exact z, k _ .non _ _ _ (Same.refl G) (R.put (m := .lst (cs ++ [d])) hw ⟨_, rfl, e3.append ⟨v, [], rfl, hv, rfl⟩⟩) rfl q⟩
theorem sm_extend {K : PySem.W.Frag} : SimM K rExtend dExtend := fun G H W x dx xs ds Q QD R hx hds h k => by
  obtain ⟨l, cs, d, es, rfl, rfl, hw, he, z, q⟩ := h
  obtain ⟨v, rfl, hv⟩ := one_of hds
  obtain ⟨vs, e1, e3⟩ := owned_at R hw
  obtain ⟨b, us, rfl, hb, qb⟩ := lstOf_at R hv he
  cases (show x = _ from hx)
  exact ⟨l, b, vs, us, rfl, rfl, e1, hb, by rw [← e3.length, ← qb.length]; exact z, k _ .non _ _ _ (Same.refl G) (R.put (m := .lst (cs ++ es)) hw ⟨_, rfl, e3.append qb⟩) rfl q⟩
theorem de_append (ho : DE X G0 o to ao) (ha : DA X G0 [e] t at') (hbase : attributeBase o "append" X.env (eval o X.env) = eval o X.env := by rfl)
    (hfew : ((backTo cpos (starEach [e] X.env)).all (fun x => !x.1) && (backToKw cpos (keywordEach [] X.env)).all (fun x => x.1.isSome) && decide ([e].length + ([] : List Keyword).length + (if ([] : List Keyword).isEmpty then 0 else 1) < 30)) = true := by rfl)
    (hline : (apos.endLine == cpos.line) = true := by rfl) (hs : starEach [e] X.env = (false, eval e X.env) :: starEach [] X.env := by rfl) :
    DE X G0 (.Call (.Attribute o "append" apos) [e] [] cpos) (tBM X.K "list" rAppend to t) (aBM tyL dAppend ao at') := de_lm PySem.F.slot_list_append PySem.F.type_list_append mt_append sm_append ho ha hbase hfew hline hs rfl
theorem de_extend (ho : DE X G0 o to ao) (ha : DA X G0 [e] t at') (hbase : attributeBase o "extend" X.env (eval o X.env) = eval o X.env := by rfl)
    (hfew : ((backTo cpos (starEach [e] X.env)).all (fun x => !x.1) && (backToKw cpos (keywordEach [] X.env)).all (fun x => x.1.isSome) && decide ([e].length + ([] : List Keyword).length + (if ([] : List Keyword).isEmpty then 0 else 1) < 30)) = true := by rfl)
    (hline : (apos.endLine == cpos.line) = true := by rfl) (hs : starEach [e] X.env = (false, eval e X.env) :: starEach [] X.env := by rfl) :
    DE X G0 (.Call (.Attribute o "extend" apos) [e] [] cpos) (tBM X.K "list" rExtend to t) (aBM tyL dExtend ao at') := de_lm PySem.F.slot_list_extend PySem.F.type_list_extend mt_extend sm_extend ho ha hbase hfew hline hs rfl
def aM1 (r : RDM) (o a : AE) : AE := fun δ W Q => o δ W fun x W1 => (∃ z, x = .str z) ∧ a δ W1 fun y W2 => r x [y] W2 Q
def dJoin : RDM := fun x vs W Q => ∃ a d ys, x = .str a ∧ vs = [d] ∧ (lstRd W d = some (ys.map D.str) ∨ d = .tup (ys.map D.str)) ∧ (ys.map (·.length)).sum + ys.length * a.length ≤ 16777216 ∧ Q (.str (Txt.join a ys)) W
def rJoinA (K : PySem.W.Frag) : V → List V → Hp → VK → Prop := fun x xs H Q => ∃ a p, ∃ ys : List Str, x = .str a ∧ xs = [.ref p] ∧ (SqL K H p (ys.map V.str) ∨ SqT K H p (ys.map V.str)) ∧ (ys.map (·.length)).sum + ys.length * a.length ≤ 16777216 ∧ Q (.str (Txt.join a ys)) H
theorem sm_join {K : PySem.W.Frag} : SimM K (rJoinA K) dJoin := fun G H W x dx xs ds Q QD R hx hds h k => by
  obtain ⟨a, d, ys, rfl, rfl, hd, z, q⟩ := h
  obtain ⟨v, rfl, hv⟩ := one_of hds
  cases (show x = _ from hx)
  rcases hd with hd | rfl
  · obtain ⟨p, vs, rfl, hp, qp⟩ := lstRd_at R hv hd
    cases IsDs.strs.mp qp
    exact ⟨a, p, ys, rfl, rfl, .inl hp, z, k.here (d := .str _) R rfl q⟩
  · obtain ⟨p, vs, rfl, hp, qp⟩ := hv
    cases IsDs.strs.mp qp
    exact ⟨a, p, ys, rfl, rfl, .inr (SqT.of (R.tup hp)), z, k.here (d := .str _) R rfl q⟩
theorem sim_m1 {K : PySem.W.Frag} (hr : SimM K r rd) (ho : SimE K G0 to ao) (ha : SimE K G0 te ae) : SimE K G0 (tM1 r to te) (aM1 rd ao ae) := fun σ H Q G δ W QD s0 R S h k => by
  refine ho σ H _ G δ W _ s0 R S h fun x dx G1 H1 W1 s1 R1 d1 h1 => ?_
  obtain ⟨⟨z, rfl⟩, q⟩ := h1
  refine ⟨⟨z, d1⟩, ?_⟩
  refine ha σ H1 _ G1 δ W1 _ (s0.trans s1) R1 (S.up s1) q fun y dy G2 H2 W2 s2 R2 d2 h2 => ?_
  exact hr G2 H2 W2 x (.str z) [y] [dy] Q QD R2 (IsD.up s2 _ _ d1) ⟨y, [], rfl, d2, rfl⟩ h2 (k.up (s1.trans s2))
theorem de_join (ho : DE X G0 o to ao) (he : DE X G0 e te ae) (hs : starEach [e] X.env = [(false, eval e X.env)] := by rfl) (hbase : attributeBase o "join" X.env (eval o X.env) = eval o X.env := by rfl) (hline : (apos.endLine == pos.line) = true := by rfl) :
    DE X G0 (.Call (.Attribute o "join" apos) [e] [] pos) (tM1 (rJoinA X.K) to te) (aM1 dJoin ao ae) := ⟨pe_join ho.pe he.pe hs hbase hline, sim_m1 sm_join ho.sim he.sim⟩

def dput {κ α : Type} [DecidableEq κ] (kds : List (κ × α)) (k : κ) (v : α) : List (κ × α) :=
  if (kds.any fun kv => decide (kv.1 = k)) = true then kds.map (fun kv => if kv.1 = k then (kv.1, v) else kv) else kds ++ [(k, v)]
def rSetD : TSet := fun o i v H Q => ∃ a H', o = .ref a ∧ DPut H a i v H' ∧ Q H'
theorem set_dict (hu : X.A.units + 1 < cLine) : PSet X rSetD := fun pins s σ H o i v ov iv u Q I ro ri rv h => by
  obtain ⟨a, H', rfl, g, q⟩ := h
  cases ro
  exact d_setItem hu I g ri rv fun s' I' => ⟨H', I', q⟩
def rSetA : TSet := fun o i v H Q => rSetL o i v H Q ∨ rSetD o i v H Q
theorem set_all (hu : X.A.units + 1 < cLine) : PSet X rSetA := fun pins s σ H o i v ov iv u Q I ro ri rv h => by
  rcases h with h | h
  · exact set_list pins s σ H o i v ov iv u Q I ro ri rv h
  · exact set_dict hu pins s σ H o i v ov iv u Q I ro ri rv h
def dSet : DSet := fun o i v W N => ∃ l, o = .ptr l ∧ ((∃ ds k j, W l = some (.lst ds) ∧ i = .int k ∧ ixN ds.length k = some j ∧ N (W.set l (.lst (ds.set j v)))) ∨
  (∃ kds k, W l = some (.dk kds) ∧ keyOf i = some k ∧ kds.length < sizeLine ∧ N (W.set l (.dk (dput kds k v)))) ∨
  (∃ kds ks k, W l = some (.dt kds) ∧ i = .tup ks ∧ keysOf ks = some k ∧ kds.length < sizeLine ∧ N (W.set l (.dt (dput kds k v)))))
theorem IsKs.any {K : PySem.W.Frag} {G : Hp} (k : Key) : ∀ {kds : List (Key × D)} {kvs : List (Key × V)}, IsKs K G kds kvs → (kds.any fun kv => decide (kv.1 = k)) = (kvs.any fun kv => decide (kv.1 = k))
  | [], _, h => by cases h; rfl
  | (k', d) :: r, _, h => by
    obtain ⟨v, r', rfl, h1, h2⟩ := h
    rw [List.any_cons, List.any_cons, h2.any k]
theorem IsTs.any {K : PySem.W.Frag} {G : Hp} (k : List Key) : ∀ {kds : List (List Key × D)} {kvs : List (List Key × V)}, IsTs K G kds kvs → (kds.any fun kv => decide (kv.1 = k)) = (kvs.any fun kv => decide (kv.1 = k))
  | [], _, h => by cases h; rfl
  | (k', d) :: r, _, h => by
    obtain ⟨v, r', rfl, h1, h2⟩ := h
    rw [List.any_cons, List.any_cons, h2.any k]
theorem IsKs.app {K : PySem.W.Frag} {G : Hp} {d : D} {v : V} (k : Key) (hd : IsD K G d v) : ∀ {kds : List (Key × D)} {kvs : List (Key × V)}, IsKs K G kds kvs → IsKs K G (kds ++ [(k, d)]) (kvs ++ [(k, v)])
  | [], _, h => by cases h; exact ⟨v, [], rfl, hd, rfl⟩
  | (k', d') :: r, _, h => by
    obtain ⟨v', r', rfl, h1, h2⟩ := h
    exact ⟨v', _, rfl, h1, h2.app k hd⟩
theorem IsTs.app {K : PySem.W.Frag} {G : Hp} {d : D} {v : V} (k : List Key) (hd : IsD K G d v) : ∀ {kds : List (List Key × D)} {kvs : List (List Key × V)}, IsTs K G kds kvs → IsTs K G (kds ++ [(k, d)]) (kvs ++ [(k, v)])
  | [], _, h => by cases h; exact ⟨v, [], rfl, hd, rfl⟩
  | (k', d') :: r, _, h => by
    obtain ⟨v', r', rfl, h1, h2⟩ := h
    exact ⟨v', _, rfl, h1, h2.app k hd⟩
theorem IsKs.map {K : PySem.W.Frag} {G : Hp} {d : D} {v : V} (k : Key) (hd : IsD K G d v) : ∀ {kds : List (Key × D)} {kvs : List (Key × V)}, IsKs K G kds kvs → IsKs K G (kds.map fun kv => if kv.1 = k then (kv.1, d) else kv) (kvs.map fun kv => if kv.1 = k then (kv.1, v) else kv)
  | [], _, h => by cases h; rfl
  | (k', d') :: r, _, h => by
    obtain ⟨v', r', rfl, h1, h2⟩ := h
    rw [List.map_cons, List.map_cons]
    by_cases e : k' = k
    · rw [if_pos e, if_pos e]
      exact ⟨v, _, rfl, hd, h2.map k hd⟩
    · rw [if_neg e, if_neg e]
      exact ⟨v', _, rfl, h1, h2.map k hd⟩
theorem IsTs.map {K : PySem.W.Frag} {G : Hp} {d : D} {v : V} (k : List Key) (hd : IsD K G d v) : ∀ {kds : List (List Key × D)} {kvs : List (List Key × V)}, IsTs K G kds kvs → IsTs K G (kds.map fun kv => if kv.1 = k then (kv.1, d) else kv) (kvs.map fun kv => if kv.1 = k then (kv.1, v) else kv)
  | [], _, h => by cases h; rfl
  | (k', d') :: r, _, h => by
    obtain ⟨v', r', rfl, h1, h2⟩ := h
    rw [List.map_cons, List.map_cons]
    by_cases e : k' = k
    · rw [if_pos e, if_pos e]
      exact ⟨v, _, rfl, hd, h2.map k hd⟩
    · rw [if_neg e, if_neg e]
      exact ⟨v', _, rfl, h1, h2.map k hd⟩
theorem IsKs.put {K : PySem.W.Frag} {G : Hp} {d : D} {v : V} (k : Key) (hd : IsD K G d v) {kds : List (Key × D)} {kvs : List (Key × V)} (h : IsKs K G kds kvs) : IsKs K G (dput kds k d) (putK kvs k v) := by
  unfold dput putK
  rw [h.any k]
  split
  · exact h.map k hd
  · exact h.app k hd
theorem IsTs.put {K : PySem.W.Frag} {G : Hp} {d : D} {v : V} (k : List Key) (hd : IsD K G d v) {kds : List (List Key × D)} {kvs : List (List Key × V)} (h : IsTs K G kds kvs) : IsTs K G (dput kds k d) (putK kvs k v) := by
  unfold dput putK
  rw [h.any k]
  split
  · exact h.map k hd
  · exact h.app k hd
theorem set_sim {K : PySem.W.Frag} : SimSet K rSetA dSet := fun G H W o i v d e f M N R ho hi hv h k => by
  obtain ⟨l, rfl, h⟩ := h
  cases (show o = _ from ho)
  rcases h with ⟨ds, j, n, hw, rfl, e1, q⟩ | ⟨kds, key, hw, e1, z, q⟩ | ⟨kds, ks, key, hw, rfl, e1, z, q⟩
  · obtain ⟨vs, e2, e3⟩ := owned_at R hw
    cases (show i = _ from hi)
    exact .inl ⟨l, vs, j, n, rfl, rfl, e2, by rw [← e3.length]; exact e1, k _ _ (R.put (m := .lst (ds.set n f)) hw ⟨_, rfl, e3.set hv n⟩) q⟩
  · obtain ⟨_, u, e2, vs, e3, e4⟩ := R.own _ _ hw
    subst e3
    exact .inr ⟨l, _, rfl, .inl ⟨vs, key, e2, keyOf_at hi e1, by rw [← e4.length]; exact z, rfl⟩, k _ _ (R.put (m := .dk (dput kds key f)) hw ⟨_, rfl, e4.put key hv⟩) q⟩
  · obtain ⟨_, u, e2, vs, e3, e4⟩ := R.own _ _ hw
    subst e3
    obtain ⟨b, us, rfl, hb, qb⟩ := hi
    exact .inr ⟨l, _, rfl, .inr ⟨vs, key, b, e2, rfl, by rw [R.tup hb, keysOf_at qb e1], by rw [← e4.length]; exact z, rfl⟩, k _ _ (R.put (m := .dt (dput kds key f)) hw ⟨_, rfl, e4.put key hv⟩) q⟩

/-- an exception: its class, its own fields -/
abbrev DX := Str → List (Str × D) → Wd → Prop
abbrev SpD := List D → Wd → DQ → DX → Prop
def XD (K : PySem.W.Frag) (G : Hp) (od : Option Addr) (fs : List (Str × D)) : Prop := (fs = [] ∧ od = none) ∨ ∃ a vs, fs ≠ [] ∧ od = some a ∧ G a = some (.xd vs) ∧ IsFs K G fs vs
def LiftX (K : PySem.W.Frag) (G : Hp) (E : XK) (ED : DX) : Prop := ∀ n fs od G' H' W', Same G G' → Rel K G' H' W' → XD K G' od fs → ED n fs W' → E (.ref (He.ga K n)) od H'
def liftSp (K : PySem.W.Frag) (sp : SpD) : Sp := fun vs H Q E => ∃ G W ds QD ED, Rel K G H W ∧ IsDs K G ds vs ∧ sp ds W QD ED ∧ Kont K G QD Q ∧ LiftX K G E ED
theorem LiftX.up {K : PySem.W.Frag} {G G1 : Hp} {E : XK} {ED : DX} (s : Same G G1) (h : LiftX K G E ED) : LiftX K G1 E ED := fun cls fs od G' H' W' s' => h cls fs od G' H' W' (s.trans s')
def ED0 : DX := fun _ _ _ => False
theorem liftX0 {K : PySem.W.Frag} {G : Hp} {E : XK} : LiftX K G E ED0 := fun _ _ _ _ _ _ _ _ _ h => h.elim
variable {CX : CXT} {k : Nat} {f : Addr} {fd : FuncData} {ps : List Str} {sp : SpD} {dvs : List V} {dds : List D} {ds : List Value} {E : XK} {ED : DX} {x : Str} {p : Pos}
def aCall (sp : SpD) (dds : List D) (ED : DX) (t : AA) : AE := fun δ W Q => t δ W fun ds W1 => sp (ds ++ dds) W1 Q ED
end
def startD (N : List Str) (ds : List D) : Sl := ds.map some ++ List.replicate (N.length - ds.length) none
theorem isSl_start {K : PySem.W.Frag} {G : Hp} {N : List Str} {ds : List D} {vs : List V} (h : IsDs K G ds vs) : IsSl K G (startD N ds) (L2.start N vs) := by
  have hl := h.length
  refine ⟨by unfold startD L2.start; simp [hl], fun i d e => ?_⟩
  unfold startD at e
  unfold L2.start
  by_cases hi : i < ds.length
  · rw [List.getElem?_append_left (by simpa using hi), List.getElem?_map] at e
    rw [List.getElem?_append_left (by simpa [← hl] using hi), List.getElem?_map]
    cases q : ds[i]? with
    | none => rw [q] at e; cases e
    | some d' =>
      rw [q] at e
      cases e
      obtain ⟨v, e2, q2⟩ := h.get q
      exact ⟨v, by rw [e2]; rfl, q2⟩
  · rw [List.getElem?_append_right (by simpa using hi), List.getElem?_replicate] at e
    split at e <;> cases e
section
variable {P : Program} {w : World} {K : PySem.W.Frag} {mg : Str → Option Value} {base : Heap}
/-- the law's promise gives what the end asks -/
def spLawD : SpD := fun ds W Q E => ∃ ns : List Int, ds = [.flst (ns.map D.int)] ∧ ns.length ≤ 63 ∧ (∀ l, W l = none) ∧ ∀ W', Q (.bl true) W'
theorem law_end {H : Hp} {a : Addr} {ns : List Int} (hn : ns.length ≤ 63) (hO : Only H) (hS : SqL K H a (ns.map V.int)) : liftSp K spLawD [.ref a] H (fun v _ => v = .bl true) fun _ _ _ => False := by
  refine ⟨H, fun _ => none, [.flst (ns.map D.int)], fun d _ => d = .bl true, ED0, ⟨fun b o e => .inl e, fun l m e => by cases e⟩, ⟨.ref a, [], rfl, ⟨a, _, rfl, ?_, IsDs.ints.mpr rfl⟩, rfl⟩, ⟨ns, rfl, hn, fun _ => rfl, fun _ => rfl⟩, fun v d G' H' W' _ _ h e => by subst e; exact h, liftX0⟩
  rcases hS with (h | ⟨o, h⟩) | h
  · rcases hO a with h' | ⟨o, xs, h'⟩
    · rw [h] at h'; cases h'
    · rw [h] at h'; cases h'
  · exact .inl ⟨o, h⟩
  · exact .inr (.inr h)
end
end DL

namespace DL
open PySem PySem.Spec PyProof.Rows L2
structure GR (k : Nat) (A : Around) : Prop where
  rm : Room k A
  gd : A.guards = some []
theorem GR.mono {j k : Nat} {A : Around} (r : GR k A) (h : j ≤ k) : GR j A := ⟨r.rm.mono h, r.gd⟩
theorem GR.deeper {k : Nat} {A : Around} (r : GR (k + 1) A) (env : Env) : GR k (A.deeper env) := ⟨r.rm.deeper env, r.gd⟩
theorem GR.make {k : Nat} {A : Around} (r : GR (k + 1) A) (C : Addr) (us : List Value) (kw : List (Str × Value)) : GR k (A.under (.builtin "type.__call__" ⟨.ref C :: us, kw⟩)) := by
  refine ⟨r.rm.make C us kw, ?_⟩
  have e : (Code.builtin "type.__call__" ⟨.ref C :: us, kw⟩).guards = [] := by simp [Code.guards, Code.isGuard, guardIds]
  have e2 : (A.under (.builtin "type.__call__" ⟨.ref C :: us, kw⟩)).guards = pushGuards (Code.builtin "type.__call__" ⟨.ref C :: us, kw⟩).guards A.guards := by first | rfl | simp [Around.under]
  rw [e2, e, r.gd]; first | rfl | simp [pushGuards]
structure FnG (P : Program) (w : World) (K : PySem.W.Frag) (mg : Str → Option Value) (base : Heap) (CX : CXT) (k : Nat) (f : Addr) (fd : FuncData) (ps : List Str) (sp : Sp) : Prop where
  len : ∀ vs H Q E, sp vs H Q E → vs.length = ps.length
  go : ∀ {A : Around} {outer : List Env} {s : Shared} {H : Hp} {args : Args} {us : List Value} {vs : List V} {Q : VK} {E : XK}, GR k A → Env0 P w K mg base A outer s H → BindsTo s fd args (ps.zip us) → Vals vs us → sp vs H Q E → codeAny (model P w) A (.call (.ref f) args) (CR CX outer P w H s Q E) s
section
variable {P : Program} {w : World} {K : PySem.W.Frag} {mg : Str → Option Value} {base : Heap} {CX : CXT} {j k : Nat} {f : Addr} {fd : FuncData} {ps : List Str} {sp sp' : Sp}
theorem FnG.mono (F : FnG P w K mg base CX j f fd ps sp) (h : j ≤ k) : FnG P w K mg base CX k f fd ps sp := ⟨F.len, fun r e b v q => F.go (r.mono h) e b v q⟩
theorem FnG.imp (F : FnG P w K mg base CX k f fd ps sp) (h : ∀ vs H Q E, sp' vs H Q E → sp vs H Q E) : FnG P w K mg base CX k f fd ps sp' := ⟨fun vs H Q E q => F.len vs H Q E (h _ _ _ _ q), fun r e b v q => F.go r e b v (h _ _ _ _ q)⟩
/-- the rule for a def by its body -/
theorem fnG_of {name qual : Str} {params : Arguments} {body : List Stmt} {scope : Scope} {dV kV doc pm cdv ct oc : Value} {an od : Option Addr} {osl : Array (Option Value)} {N : List Str}
    (lk : K.lookup f = some ⟨oc, od, .func (PySem.W.fnOf name qual params body scope dV kV doc pm an cdv ct), osl⟩) (code : PySem.W.codeIn K cdv qual = true) (S : FnScope N ps scope) (len : ∀ vs H Q E, sp vs H Q E → vs.length = ps.length)
    (hbody : ∀ (A : Around) (outer : List Env) (s : Shared) (H : Hp) (vs : List V) (Q : VK) (E : XK), GR k (A.deeper (envOfC qual scope s.heap.objs.size f cdv)) → sp vs H Q E → ∃ t, PSs (cxOf CX P w K mg base N qual scope f cdv A outer s H E) body t ∧ t { nx := fun _ J => Q .non J, rt := Q } (start N vs) H) :
    FnG P w K mg base CX (k + 1) f (PySem.W.fnOf name qual params body scope dV kV doc pm an cdv ct) ps sp := by
  refine ⟨len, fun {A outer s H args us vs Q E} room ent bnd rel q => ?_⟩
  have inK : K.In s.heap := ent.mod.kin.keeps fun a o z => (ent.bs a o z).1
  have noL : s.heap.NoLimit := ent.mod.nolimit.keeps fun a o z => (ent.bs a o z).1
  have kinds : ∀ z ∈ ps.zip us, scope.names.lookup z.1 = some .local ∨ (scope.names.lookup z.1 = some .cell ∧ ((cellsFrom (s.heap.objs.size + 1) scope.names []).lookup z.1).isSome = true) := by
    rintro ⟨x, v⟩ hz
    exact (S.par x (List.of_mem_zip hz).1).imp id fun c => ⟨c, PySem.W.cellsFrom_some _ _ _ (.inl c)⟩
  refine codeAny_call_function room.rm.depth (inK _ _ lk) rfl S.co S.gen rfl (PySem.W.codeRec_of inK code) (bnd _ _ _ _ (wpAny_newFunctionEnv_cells S.kind kinds fun env he s1 x => ?_))
  subst he
  obtain ⟨t, body', q'⟩ := hbody A outer s H vs Q E (room.deeper _) q
  refine ⟨noL.keeps x.toInCall.keep, codeAny_func (wpAny_mono (body'.run [] s1 (start N vs) H _ (inv_start S room.rm.hd ent (len _ _ _ _ q) rel x) q') (fun fl s' z => ?_) fun _ _ z => z)⟩
  cases fl with
  | ret u => obtain ⟨v, _, J, I, rv, z⟩ := z; exact ⟨v, J, I.os, I.bare, I.base, I.hok, rv, z⟩
  | next => obtain ⟨_, J, I, z⟩ := z; exact ⟨.non, J, I.os, I.bare, I.base, I.hok, rfl, z⟩
  | brk => obtain ⟨_, _, _, z⟩ := z; exact z.elim
  | cont => obtain ⟨_, _, _, z⟩ := z; exact z.elim
theorem FunD.okG {x qual : Str} {params : Arguments} {body : List Stmt} {scope : Scope} {dvs : List V} {kws : List (Str × V)} {N : List Str} (F : FunD K x qual params body scope dvs kws f fd) (S : FnScope N ps scope) (len : ∀ vs H Q E, sp vs H Q E → vs.length = ps.length)
    (hbody : ∀ (cdv : Value) (A : Around) (outer : List Env) (s : Shared) (H : Hp) (vs : List V) (Q : VK) (E : XK), GR k (A.deeper (envOfC qual scope s.heap.objs.size f cdv)) → sp vs H Q E → ∃ t, PSs (cxOf CX P w K mg base N qual scope f cdv A outer s H E) body t ∧ t { nx := fun _ J => Q .non J, rt := Q } (start N vs) H) :
    FnG P w K mg base CX (k + 1) f fd ps sp := by
  obtain ⟨oc, od, dV, kV, doc, pm, an, cdv, ct, osl, rfl, lk, code, _, _⟩ := F.ex
  exact fnG_of lk code S len fun A outer s H vs Q E => hbody cdv A outer s H vs Q E
end
section
variable {X : Cx} {CX : CXT} {k n : Nat} {f C : Addr} {fd : FuncData} {ps ks : List Str} {sp : Sp} {x m : Str} {p pos apos : Pos} {e o : Expr} {es : List Expr} {ta : TE} {t tk : TA} {ds : List Value} {dvs : List V} {E : L2.St → XK} {kws : List Keyword} {g : List Value → List Value → List Value} {gV : List V → List V → List V}
/-- the callee runs -/
theorem fnG_run {pins : List (Addr × Obj)} {σ : L2.St} {H : Hp} {s : Shared} {Q : VK} {us all : List Value} {kw : List (Str × Value)} {vs : List V} (F : FnG X.prog X.w X.K X.mg X.base CX k f fd ps sp) (hr : GR k X.A) (hb : BindsTo s fd ⟨us, kw⟩ (ps.zip all)) (hx : PassesAt CX X σ (E σ))
    (I : Inv X pins σ H s) (r : Vals vs all) (h : sp vs H Q (E σ)) : wpAny (model X.prog X.w) X.A (call (.ref f) us kw) (EP X pins σ Q) X.xe s := by
  refine wpAny_call (codeAny_mono (F.go hr I.env0 hb r h) fun res s' z => ?_)
  cases res with
  | error err => exact hx pins H s err s' I z
  | ok fl => cases fl with
    | ret u => exact I.after z
    | next => exact z.elim
    | brk => exact z.elim
    | cont => exact z.elim
theorem fnG_pos {pins : List (Addr × Obj)} {σ : L2.St} {H : Hp} {s : Shared} {Q : VK} {us : List Value} {vs : List V} (F : FnG X.prog X.w X.K X.mg X.base CX k f fd ps sp) (hr : GR k X.A) (hb : Binds X.K fd ps ds) (hd : Vals dvs ds) (hx : PassesAt CX X σ (E σ))
    (I : Inv X pins σ H s) (r : Vals vs us) (h : sp (vs ++ dvs) H Q (E σ)) : wpAny (model X.prog X.w) X.A (call (.ref f) us) (EP X pins σ Q) X.xe s := by
  have r2 : Vals (vs ++ dvs) (us ++ ds) := r.append hd
  exact fnG_run F hr (hb s us I.kIn (by rw [← r2.length]; exact F.len _ _ _ _ h)) hx I r2 h
/-- f(e, ..), its defaults behind; what it lets out is wished by E, at the slots -/
def tCallD (sp : Sp) (dvs : List V) (E : L2.St → XK) (t : TA) : TE := fun σ H Q => t σ H fun vs J => sp (vs ++ dvs) J Q (E σ)
theorem pe_callG (F : FnG X.prog X.w X.K X.mg X.base CX k f fd ps sp) (hr : GR k X.A) (hg : Gl X x) (hm : X.mg x = some (.ref f)) (hk : PySem.W.keepIn X.K (.ref f) = true) (hb : Binds X.K fd ps ds) (hd : Vals dvs ds) (hx : ∀ σ, PassesAt CX X σ (E σ))
    (ha : PA X (e :: es) t) (hdb : (x == ("__debug__" : Str)) = false := by decide) (he : starEach (e :: es) X.env = (false, eval e X.env) :: starEach es X.env := by rfl) (hpl : (backTo pos (starEach es X.env)).any (·.1) = false := by rfl) :
    PE X (.Call (.Name x p) (e :: es) [] pos) (tCallD sp dvs E t) := ⟨fun pins s σ H Q I h =>
  wpAny_Call_Name_kw (ld_glob I hg hm (PySem.W.callWith_K (h₀ := X.base) I.ok.mod.kin hk (thn (ha.run pos pins s σ H _ I h) fun us s1 ⟨vs, J, I1, r, q⟩ => ⟨I1.kIn, fnG_pos F hr hb hd (hx σ) I1 r q⟩) he hpl) hdb)⟩
/-- o.m(e, ..) of an instance -/
def tMethD (C : Addr) (m : Str) (sp : Sp) (dvs : List V) (E : L2.St → XK) (ta : TE) (t : TA) : TE := fun σ H Q => ta σ H fun x J => ∃ a dx fs, x = .ref a ∧ J a = some (.ins C dx fs) ∧ fs.lookup m = none ∧ t σ J fun vs L => sp (x :: (vs ++ dvs)) L Q (E σ)
theorem pe_methG {pl : Sem Bool} (he : PE X o ta) (c : Cls X.K C) (hm : Meth X.K C m f) (F : FnG X.prog X.w X.K X.mg X.base CX k f fd ps sp) (hr : GR k X.A) (hb : Binds X.K fd ps ds) (hd : Vals dvs ds) (hx : ∀ σ, PassesAt CX X σ (E σ)) (ha : PA X (e :: es) t)
    (hst : starEach (e :: es) X.env = (false, eval e X.env) :: starEach es X.env := by rfl) (hpl : (backTo pos (starEach es X.env)).any (·.1) = false := by rfl)
    (ht : eval (.Call (.Attribute o m apos) (e :: es) [] pos) X.env = (do
      let ov ← eval o X.env
      standAt apos.atName
      let (f, first) ← holding [ov] (getMethod ov m pl)
      callWith pos f first (backTo pos (starEach (e :: es) X.env)) (backToKw pos (keywordEach [] X.env))) := by rfl) :
    PE X (.Call (.Attribute o m apos) (e :: es) [] pos) (tMethD C m sp dvs E ta t) := by
  refine ⟨fun pins s σ H Q I h => PySem.W.methodCall_KW (pl := pl) (thn (he.run pins s σ H _ I h) fun u s1 ⟨x, J, I1, rx, a, dx, fs, ex, ea, l, q⟩ => ?_) ht⟩
  subst ex
  obtain rfl : u = Value.ref a := rx
  exact getmeth_ok I1 ea c hm l (PySem.W.callWith_K (first := [.ref a]) (h₀ := X.base) I.ok.mod.kin hm.kp (thn (ha.run pos pins s1 σ J _ I1 q) fun us s2 ⟨vs, L, I2, r, q2⟩ => ⟨I2.kIn, fnG_pos (us := .ref a :: us) (vs := .ref a :: vs) F hr hb hd (hx σ) I2 (.cons rfl r) q2⟩) hst hpl)
theorem pe_methG0 {pl : Sem Bool} (he : PE X o ta) (c : Cls X.K C) (hm : Meth X.K C m f) (F : FnG X.prog X.w X.K X.mg X.base CX k f fd ps sp) (hr : GR k X.A) (hb : Binds X.K fd ps ds) (hd : Vals dvs ds) (hx : ∀ σ, PassesAt CX X σ (E σ))
    (ht : eval (.Call (.Attribute o m apos) [] [] pos) X.env = (do
      let ov ← eval o X.env
      standAt apos.atName
      let (f, first) ← holding [ov] (getMethod ov m pl)
      callWith pos f first (backTo pos (starEach [] X.env)) (backToKw pos (keywordEach [] X.env))) := by rfl) :
    PE X (.Call (.Attribute o m apos) [] [] pos) (tMethD C m sp dvs E ta tNil) := by
  refine ⟨fun pins s σ H Q I h => PySem.W.methodCall_KW (pl := pl) (thn (he.run pins s σ H _ I h) fun u s1 ⟨x, J, I1, rx, a, dx, fs, ex, ea, l, q⟩ => ?_) ht⟩
  subst ex
  obtain rfl : u = Value.ref a := rx
  exact getmeth_ok I1 ea c hm l (PySem.W.callWith_K0 (first := [.ref a]) I1.kIn hm.kp (fnG_pos (us := [.ref a]) (vs := [.ref a]) F hr hb hd (hx σ) I1 (.cons rfl .nil) q))
/-- o.m(e, .., k = v, ..) -/
def tMethNG (C : Addr) (m : Str) (n l : Nat) (sp : Sp) (gV : List V → List V → List V) (E : L2.St → XK) (ta : TE) (t tk : TA) : TE := fun σ H Q => ta σ H fun x J => ∃ a dx fs, x = .ref a ∧ J a = some (.ins C dx fs) ∧ fs.lookup m = none ∧ t σ J fun vs L => tk σ L fun zs M => vs.length = n ∧ zs.length = l ∧ sp (gV (x :: vs) zs) M Q (E σ)
theorem pe_methNG {pl : Sem Bool} (he : PE X o ta) (c : Cls X.K C) (hm : Meth X.K C m f) (F : FnG X.prog X.w X.K X.mg X.base CX k f fd ps sp) (hr : GR k X.A) (hb : KBn X.K fd ps (n + 1) ks g gV) (hx : ∀ σ, PassesAt CX X σ (E σ)) (ha : PA X (e :: es) t)
    (hkw : PK X kws tk) (hall : (backToKw pos (keywordEach kws X.env)).all (·.1.isSome) = true := by rfl) (hks : (backToKw pos (keywordEach kws X.env)).filterMap (·.1) = ks := by rfl)
    (hst : starEach (e :: es) X.env = (false, eval e X.env) :: starEach es X.env := by rfl)
    (hpl : ((backTo pos (starEach (e :: es) X.env)).any (·.1) || (backToKw pos (keywordEach kws X.env)).any (·.1.isNone)) = false := by rfl)
    (ht : eval (.Call (.Attribute o m apos) (e :: es) kws pos) X.env = (do
      let ov ← eval o X.env
      standAt apos.atName
      let (f, first) ← holding [ov] (getMethod ov m pl)
      callWith pos f first (backTo pos (starEach (e :: es) X.env)) (backToKw pos (keywordEach kws X.env))) := by rfl) :
    PE X (.Call (.Attribute o m apos) (e :: es) kws pos) (tMethNG C m n ks.length sp gV E ta t tk) := by
  refine ⟨fun pins s σ H Q I h => PySem.W.methodCall_KW (pl := pl) (thn (he.run pins s σ H _ I h) fun u s1 ⟨x, J, I1, rx, a, dx, fs, ex, ea, l, q⟩ => ?_) ht⟩
  subst ex
  obtain rfl : u = Value.ref a := rx
  refine getmeth_ok I1 ea c hm l (PySem.W.callWith_KW (first := [.ref a]) (h₀ := X.base) I.ok.mod.kin hm.kp hall (thn (ha.run pos pins s1 σ J _ I1 q) fun us s2 ⟨vs, L, I2, r, q2⟩ => ?_) hpl hst)
  refine thn (hkw.run pos pins s2 σ L _ I2 q2) fun ws s3 ⟨zs, M, I3, rz, l1, l2, q3⟩ => ⟨I3.kIn, ?_⟩
  rw [hks]
  have r' : Vals (.ref a :: vs) (.ref a :: us) := .cons rfl r
  exact fnG_run F hr (hb.to s3 (.ref a :: us) ws I3.kIn (by rw [← r'.length]; exact congrArg Nat.succ l1) (rz.length.symm.trans l2)) (hx σ) I3 (hb.rel r' rz) q3
/-- C(e, ..): a new instance and its dict, then __init__ -/
def tMakeD (C : Addr) (sp : Sp) (dvs : List V) (E : L2.St → XK) (t : TA) : TE := fun σ H Q => t σ H fun vs J => ∀ x dx, J x = none → J dx = none → dx ≠ x →
  sp (.ref x :: (vs ++ dvs)) (upd (upd J dx (.own x)) x (.ins C dx [])) (fun v L => v = .non ∧ Q (.ref x) L) (E σ)
theorem fnG_make {pins : List (Addr × Obj)} {σ : L2.St} {H : Hp} {s : Shared} {Q : VK} {us : List Value} {vs : List V} (M : Mk X.K C f) (F : FnG X.prog X.w X.K X.mg X.base CX k f fd ps sp) (hr : GR (k + 1) X.A) (hb : Binds X.K fd ps ds) (hd : Vals dvs ds)
    (hx : PassesAt CX X σ (E σ)) (I : Inv X pins σ H s) (r : Vals vs us)
    (h : ∀ x dx, H x = none → H dx = none → dx ≠ x → sp (.ref x :: (vs ++ dvs)) (upd (upd H dx (.own x)) x (.ins C dx [])) (fun v L => v = .non ∧ Q (.ref x) L) (E σ)) :
    wpAny (model X.prog X.w) X.A (call (.ref C) us) (EP X pins σ Q) X.xe s := by
  have I2 := Inv.made (C := C) I
  have q := h (s.heap.objs.size + 1) s.heap.objs.size (I.hok.fresh (Nat.le_succ _)) (I.hok.fresh (Nat.le_refl _)) (Nat.ne_of_lt (Nat.lt_succ_self _))
  have r2 : Vals (V.ref (s.heap.objs.size + 1) :: (vs ++ dvs)) (Value.ref (s.heap.objs.size + 1) :: (us ++ ds)) := .cons rfl (r.append hd)
  have hl : (Value.ref (s.heap.objs.size + 1) :: us ++ ds).length = ps.length := by rw [← F.len _ _ _ _ q]; exact r2.length.symm
  refine wpAny_call (make_map (f := f) I.kIn M.makes M.init (beq_iff_eq.mp M.fn) (codeAny_mono (F.go (hr.make C us []) (I2.env0.make C us []) (hb _ (Value.ref (s.heap.objs.size + 1) :: us) I2.kIn hl) r2 q) fun res s' z => ?_))
  cases res with
  | error err => exact hx pins _ _ err s' I2 z
  | ok fl => cases fl with
    | ret u =>
      obtain ⟨v, J, I3, rv, ev, q3⟩ := I2.after z
      subst ev
      exact ⟨rv, .ref (s.heap.objs.size + 1), J, I3, rfl, q3⟩
    | next => exact z.elim
    | brk => exact z.elim
    | cont => exact z.elim
theorem pe_makeG (M : Mk X.K C f) (F : FnG X.prog X.w X.K X.mg X.base CX k f fd ps sp) (hr : GR (k + 1) X.A) (hg : Gl X x) (hm : X.mg x = some (.ref C)) (hb : Binds X.K fd ps ds) (hd : Vals dvs ds) (hx : ∀ σ, PassesAt CX X σ (E σ))
    (ha : PA X (e :: es) t) (hdb : (x == ("__debug__" : Str)) = false := by decide) (he : starEach (e :: es) X.env = (false, eval e X.env) :: starEach es X.env := by rfl) (hpl : (backTo pos (starEach es X.env)).any (·.1) = false := by rfl) :
    PE X (.Call (.Name x p) (e :: es) [] pos) (tMakeD C sp dvs E t) := ⟨fun pins s σ H Q I h =>
  wpAny_Call_Name_kw (ld_glob I hg hm (PySem.W.callWith_K (h₀ := X.base) I.ok.mod.kin M.kp (thn (ha.run pos pins s σ H _ I h) fun us s1 ⟨vs, J, I1, r, q⟩ => ⟨I1.kIn, fnG_make M F hr hb hd (hx σ) I1 r q⟩) he hpl) hdb)⟩
theorem pe_makeG0 (M : Mk X.K C f) (F : FnG X.prog X.w X.K X.mg X.base CX k f fd ps sp) (hr : GR (k + 1) X.A) (hg : Gl X x) (hm : X.mg x = some (.ref C)) (hb : Binds X.K fd ps ds) (hd : Vals dvs ds) (hx : ∀ σ, PassesAt CX X σ (E σ))
    (hdb : (x == ("__debug__" : Str)) = false := by decide) : PE X (.Call (.Name x p) [] [] pos) (tMakeD C sp dvs E tNil) := ⟨fun pins s σ H Q I h =>
  wpAny_Call_Name_kw (ld_glob I hg hm (PySem.W.callWith_K0 I.kIn M.kp (fnG_make (us := []) M F hr hb hd (hx σ) I .nil h)) hdb)⟩
end
theorem law_callG {P : Program} {w : World} {K : PySem.W.Frag} {mg mb : Str → Option Value} {CX : CXT} {k : Nat} {fa a : Addr} {fd : FuncData} {x : Str} {sp : Sp} {s1 : Shared} {vs : List Value} {ns : List Int}
    (inK : K.In s1.heap) (ns1 : s1.heap.Ns mainGlobals mg) (ns2 : s1.heap.Ns builtinsNs mb) (bts : ∀ x : Str, x ≠ "__name__" → mb x = bootBuiltins x) (noL : s1.heap.NoLimit) (gs : s1.gens = #[])
    (at' : s1.heap.get? a = some { cls := .type "list", data := .seq vs.toArray }) (its : IntsAre vs ns) (short : ns.length ≤ sizeLine) (room : Room k callerA)
    (F : ∀ base : Heap, K.In base → base.Ns mainGlobals mg → FnG P w K mg base CX k fa fd [x] sp) (bnd : ∀ (s : Shared) (u : Value), BindsTo s fd ⟨[u], []⟩ [(x, u)])
    (ask : ∀ H : Hp, Only H → SqL K H a (ns.map V.int) → sp [.ref a] H (fun v _ => v = .bl true) fun _ _ _ => False)
    (noX : ∀ H e s', CX [] H s1 (fun _ _ _ => False) e s' → False) :
    codeAny (model P w) callerA (.call (.ref fa) ⟨[.ref a], []⟩) (fun r s' => r = .ok (.ret (.bool true)) ∧ OldK s1.heap s'.heap ∧ s'.os = s1.os ∧ AllBare s'.gens) s1 := by
  have main : ∀ H : Hp, Only H → SqL K H a (ns.map V.int) → HOk P w H s1.heap → (∀ b, H b ≠ none → b = a ∧ K.lookup a = none) →
      codeAny (model P w) callerA (.call (.ref fa) ⟨[.ref a], []⟩) (fun r s' => r = .ok (.ret (.bool true)) ∧ OldK s1.heap s'.heap ∧ s'.os = s1.os ∧ AllBare s'.gens) s1 := by
    intro H only sq ok at1
    have some1 : ∀ {b : Addr}, ¬ H b = none → b = a ∧ K.lookup a = none := fun {b} z => at1 b z
    have keepD : ∀ {b : Addr} {o : Obj} {es : Array DictEntry} {ep : Nat}, s1.heap.get? b = some o → o.data = .dict es ep → (hidT s1.heap H).get? b = some o := fun {b o es ep} e d => hidT_get e (Classical.byContradiction fun z => by
      obtain ⟨rfl, _⟩ := some1 z
      rw [at'] at e
      cases e
      exact nomatch (show Data.seq vs.toArray _ = Data.dict es ep from d))
    have keepN : ∀ {b : Addr} {m : Str → Option Value}, s1.heap.Ns b m → (hidT s1.heap H).Ns b m := fun ⟨o, es, ep, e, d, r⟩ => ⟨o, es, ep, keepD e d, d, r⟩
    have inB : K.In (hidT s1.heap H) := fun b o e => hidT_get (inK b o e) (Classical.byContradiction fun z => by
      obtain ⟨rfl, n⟩ := some1 z
      rw [n] at e
      cases e)
    have md : Mod K mg (hidT s1.heap H) := ⟨inB, keepN ns1, ⟨mb, keepN ns2, bts⟩, noL.elim fun mc z => ⟨mc, keepN z.1, z.2⟩⟩
    have ent : Env0 P w K mg (hidT s1.heap H) callerA [] s1 H := ⟨rfl, md, fun b o e => of_hidT e, Nat.le_of_eq (hidT_size _ _), trivial, fun b hb => absurd hb (show ¬ b ∈ ([] : List Addr) from List.not_mem_nil), ok, .of_eq gs⟩
    refine codeAny_mono ((F _ inB (keepN ns1)).go (us := [.ref a]) (vs := [.ref a]) ⟨room, rfl⟩ ent (bnd s1 (.ref a)) (.cons rfl .nil) (ask H only sq)) fun r s' h => ?_
    cases r with
    | error e => exact (noX H e s' h).elim
    | ok fl => cases fl with
      | next => exact h.elim
      | brk => exact h.elim
      | cont => exact h.elim
      | ret u =>
        obtain ⟨v, J, os, bare, un, ok2, rv, q⟩ := h
        cases (show v = .bl true from q)
        obtain rfl : u = Value.bool true := rv
        refine ⟨rfl, OldK.of_keep fun b o e => ?_, os, bare⟩
        rcases only b with z | ⟨ob, xs, z⟩
        · exact un.keep b o e z (fun z => absurd z (show ¬ b ∈ ([] : List Addr) from List.not_mem_nil)) (by simp)
        · obtain ⟨e1, _⟩ := ok b _ z
          obtain ⟨e2, _⟩ := ok2 b _ (un.frzs b ob _ z)
          rw [e] at e1
          cases e1
          exact e2
  have rv := vals_ints its
  cases hk : K.lookup a with
  | some o =>
    have e := inK a o hk
    rw [at'] at e
    cases e
    exact main (fun _ => none) (fun _ => .inl rfl) (.inr ⟨_, vs.toArray, _, hk, rfl, rfl, rfl, by rw [List.size_toArray, its.length]; exact short, by simpa using rv⟩) (fun b u z => nomatch (show (none : Option HO) = some u from z)) fun b z => absurd rfl z
  | none =>
    refine main (fun b => if b = a then some (.frz { cls := .type "list", data := .seq vs.toArray } (.lst (ns.map V.int))) else none) (fun b => ?_) (.inl (.inr ⟨{ cls := .type "list", data := .seq vs.toArray }, if_pos rfl⟩)) (fun b u z => ?_) fun b z => ?_
    · by_cases hb : b = a
      · exact .inr ⟨_, _, if_pos hb⟩
      · exact .inl (if_neg hb)
    · by_cases hb : b = a
      · cases (if_pos hb).symm.trans z
        subst hb
        exact ⟨at', by rw [List.length_map]; exact short, vs, _, rv, at'⟩
      · cases (if_neg hb).symm.trans z
    · by_cases hb : b = a
      · exact ⟨hb, hk⟩
      · exact absurd (if_neg hb) z
theorem walk_G {l : PySem.W.OpenLaw} {n k : Nat} {q : Program} {loose : List Str} {XP : (Str → Option Value) → Heap → Prop} {YP : World → Heap → Prop} {d : DefRec} {CX : CXT} {x : Str}
    (hn : l.most = some n) (hn2 : n ≤ sizeLine) (hdf : d.params.defaults = []) (hr : Room k callerA)
    (F : ∀ (w : World) (mg : Str → Option Value) (fa : Addr) (h : Heap), YP w h → h.Ns mainGlobals mg → mg d.name = some (.ref fa) →
      ∃ (K : PySem.W.Frag) (fd : FuncData) (sp : Sp), K.In h ∧ (∀ (s : Shared) (u : Value), BindsTo s fd ⟨[u], []⟩ [(x, u)]) ∧
        (∀ (H : Hp) (a : Addr) (ns : List Int), ns.length ≤ n → Only H → SqL K H a (ns.map V.int) → sp [.ref a] H (fun v _ => v = .bl true) fun _ _ _ => False) ∧
        ∀ base : Heap, K.In base → base.Ns mainGlobals mg → FnG l.prog w K mg base CX k fa fd [x] sp)
    (hCX : ∀ (H : Hp) (s : Shared) (e : Value) (s' : Shared), CX [] H s (fun _ _ _ => False) e s' → False) :
    PySem.W.WalkO q loose XP YP l.row.toRowW d [] (fun f vs => PySem.call f vs) :=
  Att.attach_call hn hdf fun w s0 s1 mg mb fa o pm cd doc a vs ns G Y ho hd hcd hmg hobj hints hlen hg => by
    obtain ⟨K, fd, sp, KX, hb, hsp, hF⟩ := F w mg fa _ Y G.T.g hmg
    exact law_callG KX G.T.g G.T.b G.T.builtins G.T.nolimit hg hobj hints (Nat.le_trans hlen hn2) hr hF hb (fun H hO hS => hsp H a ns hlen hO hS) fun H e s' => hCX H s1 e s'
end DL

namespace DL
open PySem PySem.Spec PyProof.Rows L2

structure Fk (P : Program) (w : World) (K : PySem.W.Frag) (mg : Str → Option Value) (base : Heap) (CX : CXT) (k : Nat) (x : Str) (ps : List Str) (sp : SpD) : Prop where
  ex : ∃ f fd, FnG P w K mg base CX k f fd ps (liftSp K sp) ∧ mg x = some (.ref f) ∧ PySem.W.keepIn K (.ref f) = true ∧ Binds K fd ps []
/-- a def of the top, without defaults -/
structure Df (K : PySem.W.Frag) (mg : Str → Option Value) (x nm : Str) (st : Stmt) : Prop where
  ex : ∃ f fd, FunD K nm nm (defArgs st) (defBody st) (defScope st) [] [] f fd ∧ mg x = some (.ref f)
section
variable {P : Program} {w : World} {K : PySem.W.Frag} {mg : Str → Option Value} {base : Heap}
theorem Fk.mono {CX : CXT} {j k : Nat} {x : Str} {ps : List Str} {sp : SpD} (g : Fk P w K mg base CX j x ps sp) (h : j ≤ k) : Fk P w K mg base CX k x ps sp := by
  obtain ⟨f, fd, F, m⟩ := g.ex
  exact ⟨f, fd, F.mono h, m⟩
theorem liftSp_imp {sp sp' : SpD} (h : ∀ ds W Q E, sp' ds W Q E → sp ds W Q E) (vs : List V) (H : Hp) (Q : VK) (E : XK) (q : liftSp K sp' vs H Q E) : liftSp K sp vs H Q E := by
  obtain ⟨G, W, ds, QD, ED, R, d, q, k⟩ := q
  exact ⟨G, W, ds, QD, ED, R, d, h _ _ _ _ q, k⟩
theorem Fk.imp {CX : CXT} {k : Nat} {x : Str} {ps : List Str} {sp sp' : SpD} (g : Fk P w K mg base CX k x ps sp) (h : ∀ ds W Q E, sp' ds W Q E → sp ds W Q E) : Fk P w K mg base CX k x ps sp' := by
  obtain ⟨f, fd, F, m⟩ := g.ex
  exact ⟨f, fd, F.imp (liftSp_imp h), m⟩
/-- what nobody can ask is kept -/
theorem Fk.none {CX : CXT} {x nm : Str} {st : Stmt} {ps : List Str} {sp : SpD} (F : Df K mg x nm st) (h : ∀ ds W Q E, ¬ sp ds W Q E)
    (hb : ∀ (kV doc pm : Value) (an : Option Addr) (cdv ct : Value) (us : List Value), us.length = ps.length → bindArgs (PySem.W.fnOf nm nm (defArgs st) (defBody st) (defScope st) .none kV doc pm an cdv ct) ⟨us, []⟩ = pure (ps.zip us)) : Fk P w K mg base CX 0 x ps sp := by
  obtain ⟨f, fd, F, m⟩ := F.ex
  have no : ∀ vs H Q E, ¬ liftSp K sp vs H Q E := fun vs H Q E ⟨G, W, ds, QD, ED, _, _, q, _⟩ => h _ _ _ _ q
  exact ⟨f, fd, ⟨fun vs H Q E q => absurd q (no vs H Q E), fun _ _ _ _ q => absurd q (no _ _ _ _)⟩, m, F.kp, F.bindsN hb⟩
theorem okL {nm : Str} {st : Stmt} {N ps : List Str} {k : Nat} {sp : SpD} {f : Addr} {fd : FuncData} (F : FunD K nm nm (defArgs st) (defBody st) (defScope st) [] [] f fd) (S : FnScope N ps (defScope st))
    (len : ∀ ds W Q E, sp ds W Q E → ds.length = ps.length)
    (hbody : ∀ (cdv : Value) (A : Around) (outer : List Env) (s : Shared) (H : Hp) (E : XK) (G : Hp) (f : Addr), Room k (A.deeper (envOfC nm (defScope st) s.heap.objs.size f cdv)) → A.guards = some [] →
      ∃ t a, DSs (cxOf CX0 P w K mg base N nm (defScope st) f cdv A outer s H E).nox G (defBody st) t a ∧ ∀ ds W QD ED, sp ds W QD ED → a { nx := fun _ W' => QD .non W', rt := QD } (startD N ds) W) : FnG P w K mg base CX0 (k + 1) f fd ps (liftSp K sp) := by
  refine FunD.okG F S (fun vs H Q E h => ?_) (fun cdv A outer s H vs Q E hr h => ?_)
  · obtain ⟨G, W, ds, QD, ED, _, d, h, _⟩ := h
    rw [← d.length]
    exact len _ _ _ _ h
  · obtain ⟨G, W, ds, QD, ED, R, d, h, kt, _⟩ := h
    obtain ⟨t, a, db, hb⟩ := hbody cdv A outer s H E G f hr.rm hr.gd
    refine ⟨t, db.ps.nox, db.sim _ { nx := fun _ W' => QD .non W', rt := QD } _ H G _ W (Same.refl G) R (isSl_start d) ⟨?_, kt, ?_, ?_⟩ (hb ds W QD ED h)⟩
    · exact fun σ δ G' H' W' s' R' S' q => kt _ .non G' H' W' s' R' rfl q
    · exact fun _ _ _ _ _ _ _ _ q => q.elim
    · exact fun _ _ _ _ _ _ _ _ q => q.elim
theorem okF {x nm : Str} {st : Stmt} {N ps : List Str} {k : Nat} {sp : SpD} (F : Df K mg x nm st) (S : FnScope N ps (defScope st))
    (hb : ∀ (kV doc pm : Value) (an : Option Addr) (cdv ct : Value) (us : List Value), us.length = ps.length → bindArgs (PySem.W.fnOf nm nm (defArgs st) (defBody st) (defScope st) .none kV doc pm an cdv ct) ⟨us, []⟩ = pure (ps.zip us))
    (len : ∀ ds W Q E, sp ds W Q E → ds.length = ps.length)
    (hbody : ∀ (cdv : Value) (A : Around) (outer : List Env) (s : Shared) (H : Hp) (E : XK) (G : Hp) (f : Addr), Room k (A.deeper (envOfC nm (defScope st) s.heap.objs.size f cdv)) → A.guards = some [] →
      ∃ t a, DSs (cxOf CX0 P w K mg base N nm (defScope st) f cdv A outer s H E).nox G (defBody st) t a ∧ ∀ ds W QD ED, sp ds W QD ED → a { nx := fun _ W' => QD .non W', rt := QD } (startD N ds) W) : Fk P w K mg base CX0 (k + 1) x ps sp := by
  obtain ⟨f, fd, F, m⟩ := F.ex
  exact ⟨f, fd, okL F S len hbody, m, F.kp, F.bindsN hb⟩
end
section
variable {X : Cx} {G0 : Hp} {x : Str} {p pos : Pos} {e : Expr} {es : List Expr} {t : L2.TA} {at' : AA} {k : Nat} {ps : List Str} {sp : SpD}
theorem sim_callD {G0 : Hp} {K : PySem.W.Frag} {dvs : List V} {dds : List D} {E : L2.St → XK} {ED : DX} {t : L2.TA} {at' : AA} (hl : ∀ σ, LiftX K G0 (E σ) ED) (hd : ∀ G, IsDs K G dds dvs) (ht : SimA K G0 t at') : SimE K G0 (tCallD (liftSp K sp) dvs E t) (aCall sp dds ED at') := fun σ H Q G δ W QD s0 R S h k => by
  refine ht σ H _ G δ W _ s0 R S h fun vs ds G1 H1 W1 s1 R1 d1 h1 => ?_
  exact ⟨G1, W1, ds ++ dds, QD, ED, R1, d1.append (hd G1), h1, k.up s1, (hl σ).up (s0.trans s1)⟩
theorem passA0 {X : Cx} {σ : L2.St} {E : XK} : PassesAt CX0 X σ E := fun _ _ _ _ _ _ h => h.elim
theorem de_fn (g : Fk X.prog X.w X.K X.mg X.base CX0 k x ps sp) (hr : Room k X.A) (hgd : X.A.guards = some []) (ha : DA X G0 (e :: es) t at') (hg : Gl X x := by rfl)
    (hdb : (x == ("__debug__" : Str)) = false := by decide) (he : starEach (e :: es) X.env = (false, eval e X.env) :: starEach es X.env := by rfl) (hpl : (backTo pos (starEach es X.env)).any (·.1) = false := by rfl) :
    DE X G0 (.Call (.Name x p) (e :: es) [] pos) (tCallD (liftSp X.K sp) [] (fun _ => E0) t) (aCall sp [] ED0 at') := by
  obtain ⟨f, fd, F, hm, hk, hb⟩ := g.ex
  exact ⟨pe_callG F ⟨hr, hgd⟩ hg hm hk hb .nil (fun _ => passA0) ha.pa hdb he hpl, sim_callD (fun _ => liftX0) (fun _ => rfl) ha.sim⟩
end
def D.seqd : D → Bool
  | .tup _ => true
  | .lst _ => true
  | _ => false
def D.alk (x y : D) : Prop := x.plain = true ∧ y.plain = true ∧ PySem.W.alike x.py y.py = true ∧ min x.py.depth y.py.depth ≤ 150
def dLt : RD2 := fun x y W Q => if x.seqd = true then x.alk y ∧ Q (.bl (PySem.W.dataLt x.py y.py)) W else match x with
  | .str i => ∃ j, y = .str j ∧ Q (.bl (decide (i.cps.toList < j.cps.toList))) W
  | x => ∃ i j, x = .int i ∧ y = .int j ∧ Q (.bl (decide (i < j))) W
def rLtP (K : PySem.W.Frag) : R2 := fun x y H Q => ∃ d e, Dp K H x d ∧ Dp K H y e ∧ PySem.W.alike d e = true ∧ d ≠ .none ∧ min d.depth e.depth ≤ 150 ∧ Q (.bl (PySem.W.dataLt d e)) H
def rLtA (K : PySem.W.Frag) : R2 := fun x y H Q => rLtP K x y H Q ∨ (rI0 fun i j => .bl (decide (i < j))) x y H Q ∨ (∃ i j, x = .str i ∧ y = .str j ∧ Q (.bl (decide (i.cps.toList < j.cps.toList))) H)
theorem op_ltP {X : Cx} (hu : X.A.units + 151 < cLine) : OpR X (compareOp .Lt) (rLtP X.K) := by
  intro pins s σ H x y v u Q I rx ry h
  obtain ⟨d, e, hd, he, al, nn, z, q⟩ := h
  obtain ⟨as, r1⟩ := Dp.reads I d x v hd rx
  obtain ⟨bs, r2⟩ := Dp.reads I e y u he ry
  exact PySem.W.lt_data r1 r2 al nn (by omega) ⟨.bl _, H, I, rfl, q⟩
theorem op_ltA {X : Cx} (hu : X.A.units + 151 < cLine) : OpR X (compareOp .Lt) (rLtA X.K) := (op_ltP hu).or (op_lt.or op_lt_str)
theorem sr_lt {K : PySem.W.Frag} : SimR2 K (rLtA K) dLt := fun G H W x y dx dy Q QD R hx hy h k => by
  unfold dLt at h
  split at h
  · rename_i e
    obtain ⟨⟨p1, p2, al, z⟩, q⟩ := h
    refine .inl ⟨dx.py, dy.py, IsD.dp R _ _ p1 hx, IsD.dp R _ _ p2 hy, al, ?_, z, k.here (d := .bl _) R rfl q⟩
    cases dx <;> first | (intro z; cases z; done) | cases e
  · split at h
    · obtain ⟨j, rfl, q⟩ := h
      exact .inr (.inr ⟨_, j, hx, hy, k.here (d := .bl _) R rfl q⟩)
    · obtain ⟨i, j, rfl, rfl, q⟩ := h
      exact .inr (.inl ⟨i, j, hx, hy, k.here (d := .bl _) R rfl q⟩)
section
variable {X : Cx} {K : PySem.W.Frag}
theorem opK (r : PySem.W.Frag → R2) (K : PySem.W.Frag) {f : Value → Value → Sem Value} (c : OpR X f (r X.K)) (h : X.K = K := by rfl) : OpR X f (r K) := h ▸ c
theorem ixK (K : PySem.W.Frag) (c : IxR X (rIxA X.K)) (h : X.K = K := by rfl) : IxR X (rIxA K) := h ▸ c
theorem de_fnK {G0 : Hp} {x : Str} {p pos : Pos} {e : Expr} {es : List Expr} {t : L2.TA} {at' : AA} {k : Nat} {ps : List Str} {sp : SpD} (g : Fk X.prog X.w K X.mg X.base CX0 k x ps sp) (hr : Room k X.A) (hgd : X.A.guards = some []) (ha : DA X G0 (e :: es) t at') (hK : X.K = K := by rfl) (hg : Gl X x := by rfl)
    (hdb : (x == ("__debug__" : Str)) = false := by decide) (he : starEach (e :: es) X.env = (false, eval e X.env) :: starEach es X.env := by rfl) (hpl : (backTo pos (starEach es X.env)).any (·.1) = false := by rfl) :
    DE X G0 (.Call (.Name x p) (e :: es) [] pos) (tCallD (liftSp K sp) [] (fun _ => E0) t) (aCall sp [] ED0 at') := by
  subst hK
  exact de_fn g hr hgd ha hg hdb he hpl
end
end DL

namespace DL
open PySem PySem.Spec PyProof.Rows L2
abbrev EN (Q : DQ) : AEnds := { nx := fun _ W' => Q .non W', rt := Q }
@[simp] theorem startD_cons (x : Str) (N : List Str) (d : D) (ds : List D) : startD (x :: N) (d :: ds) = some d :: startD N ds := by simp [startD]
@[simp] theorem startD_nil_cons (x : Str) (N : List Str) : startD (x :: N) [] = none :: startD N [] := by simp [startD, List.replicate_succ]
@[simp] theorem startD_nil (ds : List D) : startD [] ds = ds.map some := by simp [startD]
theorem sizeLine_val : sizeLine = 16777216 := by rw [sizeLine_eq]
theorem cutD_from (ds : List D) (k : Nat) : cutD ds (some (k : Int)) none = ds.drop k := by
  unfold cutD
  rw [HT.sIx_nat, HT.sIx_none]
  by_cases h : k ≤ ds.length
  · rw [Nat.min_eq_left h]
    exact List.take_of_length_le (by rw [List.length_drop]; exact Nat.le_refl _)
  · rw [Nat.min_eq_right (by omega), List.drop_length, List.drop_eq_nil_of_le (by omega)]
    simp
@[simp] theorem cutD_1 (ds : List D) : cutD ds (some 1) none = ds.drop 1 := cutD_from ds 1
theorem atI_of {α : Type} {xs : List α} {i : Int} (h : 0 ≤ i) : atI xs i = xs[i.toNat]? := by
  unfold atI ixN
  rw [if_pos h]
  by_cases h2 : i < (xs.length : Int)
  · rw [if_pos h2]; rfl
  · rw [if_neg h2]
    exact (List.getElem?_eq_none (by omega)).symm
@[simp] theorem atI_0 {α : Type} (xs : List α) : atI xs 0 = xs[0]? := atI_of (i := 0) (by decide)
@[simp] theorem atI_1 {α : Type} (xs : List α) : atI xs 1 = xs[1]? := atI_of (i := 1) (by decide)
@[simp] theorem atI_2 {α : Type} (xs : List α) : atI xs 2 = xs[2]? := atI_of (i := 2) (by decide)
@[simp] theorem atI_3 {α : Type} (xs : List α) : atI xs 3 = xs[3]? := atI_of (i := 3) (by decide)
@[simp] theorem atI_4 {α : Type} (xs : List α) : atI xs 4 = xs[4]? := atI_of (i := 4) (by decide)
@[simp] theorem ixN_0 (n : Nat) : ixN (n + 1) 0 = some 0 := by simp [ixN]
theorem ixN_of {n : Nat} {i : Int} (h : 0 ≤ i) (h2 : i < n) : ixN n i = some i.toNat := by unfold ixN; rw [if_pos h, if_pos h2]
section
variable (W : Wd) (Q : DQ)
@[simp] theorem tyOf_non : tyOf W .non = some "NoneType" := rfl
@[simp] theorem tyOf_bl (b : Bool) : tyOf W (.bl b) = some "bool" := rfl
@[simp] theorem tyOf_int (i : Int) : tyOf W (.int i) = some "int" := rfl
@[simp] theorem tyOf_str (x : Str) : tyOf W (.str x) = some "str" := rfl
@[simp] theorem tyOf_tup (ds : List D) : tyOf W (.tup ds) = some "tuple" := rfl
@[simp] theorem tyOf_lst (ds : List D) : tyOf W (.lst ds) = some "list" := rfl
@[simp] theorem tyOf_flst (ds : List D) : tyOf W (.flst ds) = some "list" := rfl
@[simp] theorem lenOf_tup (ds : List D) : lenOf W (.tup ds) = some ds.length := rfl
@[simp] theorem lenOf_lst (ds : List D) : lenOf W (.lst ds) = some ds.length := rfl
@[simp] theorem lenOf_flst (ds : List D) : lenOf W (.flst ds) = some ds.length := rfl
@[simp] theorem lenOf_str (z : Str) : lenOf W (.str z) = if z.length ≤ sizeLine then some z.length else none := rfl
@[simp] theorem dIx_tup (ds : List D) (y : D) : dIx (.tup ds) y W Q = ∃ i d, y = .int i ∧ atI ds i = some d ∧ Q d W := rfl
@[simp] theorem dIx_str (z : Str) (y : D) : dIx (.str z) y W Q = ∃ i c, y = .int i ∧ z.length ≤ sizeLine ∧ atI z.cps.toList i = some c ∧ Q (.str ⟨#[c]⟩) W := rfl
theorem dIx_l {x : D} {ds : List D} {i : Int} {d : D} {W : Wd} {Q : DQ} (e : lstRd W x = some ds) (h : atI ds i = some d) (q : Q d W) : dIx x (.int i) W Q := by
  cases x with
  | tup _ => cases e
  | str _ => cases e
  | _ => exact .inl ⟨ds, i, d, e, rfl, h, q⟩
@[simp] theorem dIx_lst (ds : List D) (y : D) : dIx (.lst ds) y W Q = ∃ i d, y = .int i ∧ atI ds i = some d ∧ Q d W := by
  refine propext ⟨fun h => ?_, fun ⟨i, d, e, h, q⟩ => .inl ⟨ds, i, d, rfl, e, h, q⟩⟩
  rcases h with ⟨ds', i, d, e, h⟩ | ⟨d, g, _⟩
  · cases e; exact ⟨i, d, h⟩
  · rcases g with ⟨_, _, g, _⟩ | ⟨_, _, _, g, _⟩ <;> cases g
@[simp] theorem dSl_tup (own : Bool) (ds : List D) (lo hi : Option Int) : dSl own (.tup ds) lo hi W Q = Q (.tup (cutD ds lo hi)) W := rfl
@[simp] theorem dSl_str (own : Bool) (z : Str) (lo hi : Option Int) : dSl own (.str z) lo hi W Q = (z.length ≤ sizeLine ∧ Q (.str (cutS z lo hi)) W) := rfl
@[simp] theorem dSl_lst (own : Bool) (ds : List D) (lo hi : Option Int) : dSl own (.lst ds) lo hi W Q = newL own (cutD ds lo hi) W Q := by
  refine propext ⟨fun h => ?_, fun h => ⟨ds, rfl, h⟩⟩
  obtain ⟨ds', e, q⟩ := h
  cases e
  exact q
@[simp] theorem dAdd_int (own : Bool) (i : Int) (y : D) : dAdd own (.int i) y W Q = ∃ j, y = .int j ∧ Q (.int (i + j)) W := rfl
@[simp] theorem dAdd_str (own : Bool) (i : Str) (y : D) : dAdd own (.str i) y W Q = ∃ j, y = .str j ∧ i.length + j.length ≤ sizeLine ∧ Q (.str (i ++ j)) W := rfl
@[simp] theorem dAdd_tup (own : Bool) (ds : List D) (y : D) : dAdd own (.tup ds) y W Q = ∃ es, y = .tup es ∧ ds.length + es.length ≤ sizeLine ∧ Q (.tup (ds ++ es)) W := rfl
@[simp] theorem dAdd_lst (own : Bool) (ds : List D) (y : D) : dAdd own (.lst ds) y W Q = ∃ es, lstOf W y = some es ∧ ds.length + es.length ≤ sizeLine ∧ newL own (ds ++ es) W Q := by
  refine propext ⟨fun h => ?_, fun ⟨es, h⟩ => ⟨ds, es, rfl, h⟩⟩
  obtain ⟨ds', es, e, h⟩ := h
  cases e
  exact ⟨es, h⟩
@[simp] theorem dLt_int (i : Int) (y : D) : dLt (.int i) y W Q = ∃ j, y = .int j ∧ Q (.bl (decide (i < j))) W := by
  refine propext ⟨fun h => ?_, fun ⟨j, h⟩ => ?_⟩
  · obtain ⟨i', j, e, h⟩ := (show ∃ i' j, D.int i = .int i' ∧ y = .int j ∧ Q (.bl (decide (i' < j))) W from h)
    cases e
    exact ⟨j, h⟩
  · exact (show ∃ i' j, D.int i = .int i' ∧ y = .int j ∧ Q (.bl (decide (i' < j))) W from ⟨i, j, rfl, h⟩)
@[simp] theorem dLt_str (i : Str) (y : D) : dLt (.str i) y W Q = ∃ j, y = .str j ∧ Q (.bl (decide (i.cps.toList < j.cps.toList))) W := rfl
@[simp] theorem isNon_non : isNon .non = true := rfl
@[simp] theorem isNon_bl (b : Bool) : isNon (.bl b) = false := rfl
@[simp] theorem isNon_int (b : Int) : isNon (.int b) = false := rfl
@[simp] theorem isNon_str (b : Str) : isNon (.str b) = false := rfl
@[simp] theorem isNon_tup (b : List D) : isNon (.tup b) = false := rfl
@[simp] theorem isNon_lst (b : List D) : isNon (.lst b) = false := rfl
@[simp] theorem isNon_ptr (b : Addr) : isNon (.ptr b) = false := rfl
@[simp] theorem okOf_lst (b c : List D) : okOf (.lst b) c = fun _ => True := rfl
@[simp] theorem okOf_flst (b c : List D) : okOf (.flst b) c = fun _ => True := rfl
@[simp] theorem okOf_ptr (l : Addr) (c : List D) : okOf (.ptr l) c = fun W => W l = some (.lst c) := rfl
@[simp] theorem keyOf_int (i : Int) : keyOf (.int i) = some (.inl i) := rfl
@[simp] theorem keyOf_str (i : Str) : keyOf (.str i) = some (.inr i) := rfl
@[simp] theorem keyOf_tup (i : List D) : keyOf (.tup i) = none := rfl
@[simp] theorem dInt_int (i : Int) : dInt [.int i] W Q = Q (.int i) W := rfl
@[simp] theorem dInt_bl (k : Bool) : dInt [.bl k] W Q = Q (.int (if k = true then 1 else 0)) W := rfl
@[simp] theorem dInt_str (a : Str) : dInt [.str a] W Q = ∃ n, PySem.intText? a = some n ∧ a.length ≤ 640 ∧ Q (.int n) W := rfl
@[simp] theorem dIsi_two (d : D) (n : String) : dIsi [d, .ty n] W Q = ∃ a, tyOf W d = some a ∧ (n = "int" ∨ n = "bool" ∨ n = "str" ∨ n = "tuple" ∨ n = "list" ∨ n = "dict") ∧ Q (.bl (isiB a n)) W := rfl
@[simp] theorem aiSeq_of (a : AE) (δ : Sl) (N : List D → (Wd → Prop) → Wd → Prop) : aiSeq a δ W N = a δ W fun d W1 => walkD d W1 N := rfl
@[simp] theorem walkD_tup (ds : List D) (N : List D → (Wd → Prop) → Wd → Prop) : walkD (.tup ds) W N = N ds (fun _ => True) W := rfl
@[simp] theorem walkD_str (z : Str) (N : List D → (Wd → Prop) → Wd → Prop) : walkD (.str z) W N = N (signsOf z) (fun _ => True) W := rfl
@[simp] theorem walkD_lst (ds : List D) (N : List D → (Wd → Prop) → Wd → Prop) : walkD (.lst ds) W N = N ds (fun _ => True) W := by
  refine propext ⟨fun ⟨es, e, q⟩ => ?_, fun h => ⟨ds, rfl, h⟩⟩
  cases e
  exact q
@[simp] theorem walkD_flst (ds : List D) (N : List D → (Wd → Prop) → Wd → Prop) : walkD (.flst ds) W N = N ds (fun _ => True) W := by
  refine propext ⟨fun ⟨es, e, q⟩ => ?_, fun h => ⟨ds, rfl, h⟩⟩
  cases e
  exact q
theorem walkD_ptr {l : Addr} {ds : List D} {W : Wd} (N : List D → (Wd → Prop) → Wd → Prop) (hw : W l = some (.lst ds)) : walkD (.ptr l) W N = N ds (fun W => W l = some (.lst ds)) W := by
  refine propext ⟨fun ⟨es, e, q⟩ => ?_, fun h => ⟨ds, lstRd_ptr hw, h⟩⟩
  rw [lstRd_ptr hw] at e
  cases e
  exact q
@[simp] theorem wipeD_nil (δ : Sl) : wipeD δ [] = δ := rfl
@[simp] theorem wipeD_cons (δ : Sl) (v : Nat) (vs : List Nat) : wipeD δ (v :: vs) = (wipeD δ vs).set v none := rfl
@[simp] theorem isiB_same (a : String) : isiB a a = true := by simp [isiB]
end
@[simp] theorem isiB_int (a : String) : isiB a "int" = (decide (a = "int") || decide (a = "bool")) := by simp [isiB]
@[simp] theorem isiB_str (a : String) : isiB a "str" = decide (a = "str") := by simp [isiB]
@[simp] theorem isiB_bool (a : String) : isiB a "bool" = decide (a = "bool") := by simp [isiB]
@[simp] theorem isiB_tuple (a : String) : isiB a "tuple" = decide (a = "tuple") := by simp [isiB]
@[simp] theorem isiB_list (a : String) : isiB a "list" = decide (a = "list") := by simp [isiB]
@[simp] theorem isiB_dict (a : String) : isiB a "dict" = decide (a = "dict") := by simp [isiB]
theorem tyOf_ptr {W : Wd} {l : Addr} {ds : List D} (h : W l = some (.lst ds)) : tyOf W (.ptr l) = some "list" := by simp [tyOf, h]
theorem lenOf_ptr {W : Wd} {l : Addr} {ds : List D} (h : W l = some (.lst ds)) : lenOf W (.ptr l) = some ds.length := by simp [lenOf, h]
/-- the world in which L is owned no more is the elder one -/
theorem Wd.set_fresh {W : Wd} {L l : Addr} {m : MO} (hL : W L = none) {o : MO} (h : W l = some o) : (W.set L m) l = some o := by
  rw [Wd.set_ne, h]
  intro e
  subst e
  rw [hL] at h
  cases h
/-- each element is what f tells, the world left as it is -/
theorem lcE_map {i : Nat} {e : AE} {δ : Sl} {items : List D} {W : Wd} {Q : DQ} (f : D → D) (hz : items.length ≤ sizeLine)
    (he : ∀ d ∈ items, ∀ (L : Addr) (acc : List D) (Q' : DQ), W L = none → Q' (f d) (W.set L (.lst acc)) → e (δ.set i (some d)) (W.set L (.lst acc)) Q')
    (hQ : Q (.lst (items.map f)) W) : lcE false (agName i) aYes e (fun _ => True) δ items W Q := by
  intro L hL
  have go : ∀ (ds : List D) (acc : List D), (∀ d ∈ ds, d ∈ items) → acc.length + ds.length ≤ sizeLine → acc ++ ds.map f = items.map f → lcL (agName i) aYes e (fun _ => True) δ L (fun W2 => ∃ acc, W2 L = some (.lst acc) ∧ (if false = true then Q (.ptr L) W2 else Q (.lst acc) (W2.del L))) ds (W.set L (.lst acc)) := by
    intro ds
    induction ds with
    | nil =>
      intro acc _ _ h2
      refine ⟨trivial, acc, Wd.set_same _ _ _, ?_⟩
      rw [if_neg (by decide), Wd.del_set hL, show acc = items.map f by simpa using h2]
      exact hQ
    | cons d ds ih =>
      intro acc h0 h1 h2
      refine ⟨trivial, ?_⟩
      simp only [agName, aYes, ↓reduceIte]
      refine he d (h0 d List.mem_cons_self) L acc _ hL ⟨acc, Wd.set_same _ _ _, by rw [List.length_cons] at h1; omega, ?_⟩
      rw [Wd.set_set]
      exact ih (acc ++ [f d]) (fun x hx => h0 x (List.mem_cons_of_mem _ hx)) (by rw [List.length_append, List.length_singleton]; rw [List.length_cons] at h1; omega) (by rw [← h2]; simp)
  exact go items [] (fun _ h => h) (by simpa using hz) rfl
/-- by an invariant over what is left, what is made and the world -/
theorem lcE_inv {i : Nat} {e : AE} {δ : Sl} {items : List D} {W : Wd} {Q : DQ} (I : List D → List D → Wd → Prop) (h0 : I items [] W) (hz : items.length ≤ sizeLine)
    (hs : ∀ d ds acc W' (L : Addr) (Q' : DQ), I (d :: ds) acc W' → W' L = none → (∀ y W'', W'' L = none → I ds (acc ++ [y]) W'' → Q' y (W''.set L (.lst acc))) → e (δ.set i (some d)) (W'.set L (.lst acc)) Q')
    (hd : ∀ acc W', I [] acc W' → Q (.lst acc) W') : lcE false (agName i) aYes e (fun _ => True) δ items W Q := by
  intro L hL
  have go : ∀ (ds acc : List D) (W' : Wd), W' L = none → acc.length + ds.length ≤ sizeLine → I ds acc W' → lcL (agName i) aYes e (fun _ => True) δ L (fun W2 => ∃ acc, W2 L = some (.lst acc) ∧ (if false = true then Q (.ptr L) W2 else Q (.lst acc) (W2.del L))) ds (W'.set L (.lst acc)) := by
    intro ds
    induction ds with
    | nil =>
      intro acc W' h1 _ h2
      refine ⟨trivial, acc, Wd.set_same _ _ _, ?_⟩
      rw [if_neg (by decide), Wd.del_set h1]
      exact hd acc W' h2
    | cons d ds ih =>
      intro acc W' h1 hz h2
      refine ⟨trivial, ?_⟩
      simp only [agName, aYes, ↓reduceIte]
      rw [List.length_cons] at hz
      refine hs d ds acc W' L _ h2 h1 fun y W'' h3 q => ⟨acc, Wd.set_same _ _ _, by omega, ?_⟩
      rw [Wd.set_set]
      exact ih _ _ h3 (by rw [List.length_append, List.length_singleton]; omega) q
  exact go items [] W hL (by simpa using hz) h0
end DL

namespace DL
open PySem PySem.Spec PyProof.Rows L2
inductive Trm where
  | var (n : Int)
  | app (f : Str) (ts : List Trm)
mutual
def Trm.d : Trm → D
  | .var n => .int n
  | .app f ts => .tup (.str f :: Trm.ds ts)
def Trm.ds : List Trm → List D
  | [] => []
  | t :: ts => t.d :: Trm.ds ts
end
theorem Trm.ds_map : ∀ ts : List Trm, Trm.ds ts = ts.map Trm.d
  | [] => rfl
  | t :: ts => by rw [Trm.ds, Trm.ds_map ts, List.map_cons]
@[simp] theorem Trm.d_var (n : Int) : (Trm.var n).d = .int n := by rw [Trm.d]
@[simp] theorem Trm.d_app (f : Str) (ts : List Trm) : (Trm.app f ts).d = .tup (.str f :: ts.map Trm.d) := by rw [Trm.d, Trm.ds_map]
mutual
theorem Trm.ind {p : Trm → Prop} (hv : ∀ n, p (.var n)) (ha : ∀ f ts, (∀ t ∈ ts, p t) → p (.app f ts)) : ∀ t, p t
  | .var n => hv n
  | .app f ts => ha f ts (Trm.inds hv ha ts)
theorem Trm.inds {p : Trm → Prop} (hv : ∀ n, p (.var n)) (ha : ∀ f ts, (∀ t ∈ ts, p t) → p (.app f ts)) : ∀ (ts : List Trm), ∀ t ∈ ts, p t
  | [], t, h => by cases h
  | u :: us, t, h => by
    rcases List.mem_cons.mp h with e | h
    · rw [e]; exact Trm.ind hv ha u
    · exact Trm.inds hv ha us t h
end
theorem Trm.d_inj : ∀ (t u : Trm), t.d = u.d → t = u := by
  intro t
  induction t using Trm.ind with
  | hv n => intro u e; cases u with
    | var m => simp at e; rw [e]
    | app f ts => simp at e
  | ha f ts ih => intro u e; cases u with
    | var m => simp at e
    | app g us =>
      simp at e
      obtain ⟨rfl, e⟩ := e
      have go : ∀ (ts us : List Trm), (∀ t ∈ ts, ∀ u : Trm, t.d = u.d → t = u) → ts.map Trm.d = us.map Trm.d → ts = us := by
        intro ts
        induction ts with
        | nil => intro us _ e; cases us with
          | nil => rfl
          | cons _ _ => simp at e
        | cons t ts ih2 => intro us h e; cases us with
          | nil => simp at e
          | cons u us =>
            simp at e
            rw [h t List.mem_cons_self u e.1, ih2 us (fun t h' => h t (List.mem_cons_of_mem _ h')) e.2]
      rw [go ts us ih e]
@[simp] theorem Trm.d_eq {t u : Trm} : t.d = u.d ↔ t = u := ⟨Trm.d_inj t u, fun e => by rw [e]⟩
def Trm.isVar : Trm → Bool
  | .var _ => true
  | .app _ _ => false
mutual
def Trm.size : Trm → Nat
  | .var _ => 1
  | .app _ ts => 1 + Trm.sizes ts
def Trm.sizes : List Trm → Nat
  | [] => 0
  | t :: ts => t.size + Trm.sizes ts
def Trm.depth : Trm → Nat
  | .var _ => 1
  | .app _ ts => 1 + Trm.depths ts
def Trm.depths : List Trm → Nat
  | [] => 0
  | t :: ts => max t.depth (Trm.depths ts)
def Trm.ground : Trm → Bool
  | .var _ => false
  | .app _ ts => Trm.grounds ts
def Trm.grounds : List Trm → Bool
  | [] => true
  | t :: ts => t.ground && Trm.grounds ts
end
theorem Trm.depth_pos (t : Trm) : 1 ≤ t.depth := by cases t <;> simp [Trm.depth]
theorem Trm.depths_le {t : Trm} : ∀ {ts : List Trm}, t ∈ ts → t.depth ≤ Trm.depths ts
  | [], h => by cases h
  | u :: us, h => by
    rw [Trm.depths]
    rcases List.mem_cons.mp h with e | h
    · rw [e]; exact Nat.le_max_left _ _
    · exact Nat.le_trans (Trm.depths_le h) (Nat.le_max_right _ _)
@[simp] theorem tyOf_d (W : Wd) (t : Trm) : tyOf W t.d = some (if t.isVar = true then "int" else "tuple") := by
  cases t <;> simp [Trm.isVar]
def isIntD : D → Bool
  | .int _ => true
  | .bl _ => true
  | _ => false
@[simp] theorem isIntD_d (t : Trm) : isIntD t.d = t.isVar := by
  cases t <;> simp [Trm.isVar, isIntD]
@[simp] theorem isIntD_int (i : Int) : isIntD (.int i) = true := rfl
@[simp] theorem isIntD_str (i : Str) : isIntD (.str i) = false := rfl
@[simp] theorem isIntD_tup (i : List D) : isIntD (.tup i) = false := rfl
def StO (m : MO) : Prop := ∃ (r : Int) (xs : List Int) (i c : Int), m = .lst [.int r, .lst (xs.map .int), .int i, .int c] ∧ 0 ≤ i
end DL

namespace DL
open PySem PySem.Spec PyProof.Rows L2
section
variable {δ δ' : Sl} {W W1 : Wd} {Q : DQ} {QT : Bool → Wd → Prop} {QA : List D → Wd → Prop} {QO : Option Int → Wd → Prop} {A : AEnds} {N : Sl → Wd → Prop} {M : List D → (Wd → Prop) → Wd → Prop} {a b c : AE} {t u : AT} {l r : AA} {lo hi : AO} {s s' : AS} {g : AG} {gs : AGs} {r2 r2' : RD2} {r1 : RD1} {rc : RDC} {rm : RDM} {ai : AI} {d e : D} {ds es : List D} {i j : Int} {k : Bool} {own : Bool} {x y z : Str} {ty : D → Wd → Prop}
theorem go_seq (h : s { A with nx := fun δ W => s' A δ W } δ W) : aSeq s s' A δ W := h
theorem go_asg (h : a δ W fun x W1 => g x δ W1 A.nx) : aAsg a g A δ W := h
theorem go_op (h : a δ W fun x W1 => b δ W1 fun y W2 => r2 x y W2 Q) : aOp r2 a b δ W Q := h
theorem go_un (h : a δ W fun x W1 => r1 x W1 Q) : aUn r1 a δ W Q := h
theorem go_test (h : a δ W fun x W1 => ∃ k, x = .bl k ∧ QT k W1) : aTest a δ W QT := h
theorem go_bl {p : Bool → Prop} (h : p k) : ∃ k', D.bl k = .bl k' ∧ p k' := ⟨k, rfl, h⟩
theorem go_cb (h : l δ W fun ds W1 => rc ds W1 Q) : aCB rc l δ W Q := h
theorem go_cons (h : a δ W fun x W1 => l δ W1 fun xs W2 => QA (x :: xs) W2) : aCons a l δ W QA := h
theorem go_nil (h : QA [] W) : aNil δ W QA := h
theorem go_ifs (h : t δ W fun b W1 => if b = true then s A δ W1 else s' A δ W1) : aIfS t s s' A δ W := h
theorem go_ret (h : a δ W A.rt) : aRet a A δ W := h
theorem go_retN (h : A.rt .non W) : aRetN A δ W := h
theorem go_drop (h : a δ W fun _ W1 => A.nx δ W1) : aDrop a A δ W := h
theorem go_call {sp : SpD} {dds : List D} {ED : DX} (h : l δ W fun ds W1 => sp (ds ++ dds) W1 Q ED) : aCall sp dds ED l δ W Q := h
theorem go_callN {sp : SpD} {ED : DX} (h : sp ds W Q ED) : sp (ds ++ []) W Q ED := by rw [List.append_nil]; exact h
theorem go_tup (h : l δ W fun ds W1 => ds.length ≤ sizeLine ∧ Q (.tup ds) W1) : aTup l δ W Q := h
theorem go_lst (h : l δ W fun ds W1 => ds.length ≤ sizeLine ∧ newL own ds W1 Q) : aLst own l δ W Q := h
theorem go_len {p : Prop} (h0 : ds.length ≤ sizeLine) (h : p) : ds.length ≤ sizeLine ∧ p := ⟨h0, h⟩
theorem go_newF (h : Q (.lst ds) W) : newL false ds W Q := by rw [newL_f]; exact h
theorem go_newT (h : ∀ p, W p = none → Q (.ptr p) (W.set p (.lst ds))) : newL true ds W Q := by rw [newL_t]; exact h
theorem go_sl {f : D → Option Int → Option Int → Wd → DQ → Prop} (h : a δ W fun x W1 => lo δ W1 fun p W2 => hi δ W2 fun q W3 => f x p q W3 Q) : aSl f a lo hi δ W Q := h
theorem go_part (h : a δ W fun x W1 => ∃ i, x = .int i ∧ QO (some i) W1) : aPart a δ W QO := h
theorem go_int {p : Int → Prop} (h : p i) : ∃ j, D.int i = .int j ∧ p j := ⟨i, rfl, h⟩
theorem go_noPart (h : QO none W) : aNoPart δ W QO := h
theorem go_bm (h : a δ W fun x W1 => ty x W1 ∧ l δ W1 fun ds W2 => rm x ds W2 Q) : aBM ty rm a l δ W Q := h
theorem go_m1 (h : a δ W fun x W1 => (∃ z, x = .str z) ∧ b δ W1 fun y W2 => rm x [y] W2 Q) : aM1 rm a b δ W Q := h
theorem go_mstr {p : Prop} (h : p) : (∃ z, D.str x = .str z) ∧ p := ⟨⟨x, rfl⟩, h⟩
theorem go_tyLl {p : Prop} (h : p) : tyL (.lst ds) W ∧ p := ⟨⟨ds, rfl⟩, h⟩
theorem go_tyLp {p : Prop} {q : Addr} (hw : W q = some (.lst ds)) (h : p) : tyL (.ptr q) W ∧ p := ⟨⟨ds, lstRd_ptr hw⟩, h⟩
theorem go_and (h : t δ W fun c W1 => if c = true then u δ W1 QT else QT false W1) : aAnd t u δ W QT := h
theorem go_or (h : t δ W fun c W1 => if c = true then QT true W1 else u δ W1 QT) : aOr t u δ W QT := h
theorem go_not (h : t δ W fun c W1 => QT (!c) W1) : aNot t δ W QT := h
theorem go_if (h : t δ W fun c W1 => if c = true then a δ W1 Q else b δ W1 Q) : aIf t a b δ W Q := h
theorem go_andV (h : a δ W fun x W1 => ∃ c, x = .bl c ∧ if c = true then b δ W1 Q else Q (.bl false) W1) : aAndV a b δ W Q := h
theorem go_orV (h : a δ W fun x W1 => ∃ c, x = .bl c ∧ if c = true then Q (.bl true) W1 else b δ W1 Q) : aOrV a b δ W Q := h
theorem go_notV (h : a δ W fun x W1 => ∃ c, x = .bl c ∧ Q (.bl (!c)) W1) : aNotV a δ W Q := h
theorem go_chain (h : a δ W fun x W1 => b δ W1 fun y W2 => r2 x y W2 fun z W3 => ∃ k, z = .bl k ∧ (if k = true then c δ W3 fun u W4 => r2' y u W4 Q else Q (.bl false) W3)) : aChain r2 r2' a b c δ W Q := h
theorem go_for (h : ai δ W fun items ok W1 => forL g s A ok items δ W1) : aFor ai g s A δ W := h
theorem go_iseq (h : a δ W fun d W1 => walkD d W1 M) : aiSeq a δ W M := h
theorem go_walkT (h : M ds (fun _ => True) W) : walkD (.tup ds) W M := h
theorem go_walkL (h : M ds (fun _ => True) W) : walkD (.lst ds) W M := by rw [walkD_lst]; exact h
theorem go_walkF (h : M ds (fun _ => True) W) : walkD (.flst ds) W M := by rw [walkD_flst]; exact h
theorem go_walkS (h : M (signsOf x) (fun _ => True) W) : walkD (.str x) W M := h
theorem go_walkP {q : Addr} (hw : W q = some (.lst ds)) (h : M ds (fun W => W q = some (.lst ds)) W) : walkD (.ptr q) W M := by rw [walkD_ptr _ hw]; exact h
theorem go_rng1 (h : l δ W fun ds W1 => ∃ j : Int, ds = [.int j] ∧ (-(2 ^ 62) ≤ j ∧ j < 2 ^ 62) ∧ M (rangeD 0 j.toNat) (fun _ => True) W1) : aiRng1 l δ W M := h
theorem go_rng1' {p : Int → Prop} (h0 : -(2 ^ 62) ≤ i ∧ i < 2 ^ 62) (h : p i) : ∃ j : Int, [D.int i] = [.int j] ∧ (-(2 ^ 62) ≤ j ∧ j < 2 ^ 62) ∧ p j := ⟨i, rfl, h0, h⟩
theorem go_rng2 (h : l δ W fun ds W1 => ∃ i j : Int, ds = [.int i, .int j] ∧ (-(2 ^ 62) ≤ i ∧ i < 2 ^ 62 ∧ -(2 ^ 62) ≤ j ∧ j < 2 ^ 62) ∧ M (rangeD i (j - i).toNat) (fun _ => True) W1) : aiRng2 l δ W M := h
theorem go_rng2' {p : Int → Int → Prop} (h0 : -(2 ^ 62) ≤ i ∧ i < 2 ^ 62 ∧ -(2 ^ 62) ≤ j ∧ j < 2 ^ 62) (h : p i j) : ∃ i' j' : Int, [D.int i, D.int j] = [.int i', .int j'] ∧ (-(2 ^ 62) ≤ i' ∧ i' < 2 ^ 62 ∧ -(2 ^ 62) ≤ j' ∧ j' < 2 ^ 62) ∧ p i' j' := ⟨i, j, rfl, h0, h⟩
theorem go_lc {vs : List Nat} (h : ai δ W fun items ok W1 => lcE own g t a ok (wipeD δ vs) items W1 Q) : aLc own ai g t a vs δ W Q := h
theorem go_name {n : Nat} (h0 : δ.set n (some d) = δ') (h : N δ' W) : agName n d δ W N := by subst h0; exact h
theorem go_gtup {n : Nat} (h0 : ds.length = n) (h : gs ds δ W N) : agTup n gs (.tup ds) δ W N := ⟨ds, rfl, h0, h⟩
theorem go_gcons (h : g d δ W fun δ' W' => gs ds δ' W' N) : agCons g gs (d :: ds) δ W N := ⟨d, ds, rfl, h⟩
theorem go_gnil (h : N δ W) : agNil [] δ W N := ⟨rfl, h⟩
theorem go_gsub {st : DSet} (h : a δ W fun x W1 => b δ W1 fun y W2 => st x y d W2 fun W3 => N δ W3) : agSub a b st d δ W N := h
theorem go_aug {n : Nat} (h0 : δ[n]? = some (some d)) (h : a δ W fun e W1 => r2 d e W1 fun f W2 => A.nx (δ.set n (some f)) W2) : aAug n a r2 A δ W := ⟨d, h0, h⟩
theorem go_var {n : Nat} (h0 : δ[n]? = some (some d)) (h : Q d W) : aVar n δ W Q := ⟨d, h0, h⟩
theorem go_varF {n : Nat} {q : Addr} {m : MO} (h0 : δ[n]? = some (some (.ptr q))) (hw : W q = some m) (hf : frzD m = some d) (hd : W.del q = W1) (h : Q d W1) : aVarF n δ W Q := by subst hd; exact ⟨q, m, d, h0, hw, hf, h⟩
theorem go_frz {n : Nat} {q : Addr} {m : MO} (h0 : δ[n]? = some (some (.ptr q))) (hw : W q = some m) (hf : frzD m = some d) (hd : W.del q = W1) (hs : δ.set n (some d) = δ') (h : s A δ' W1) : aFrz n s A δ W := by subst hd hs; exact ⟨q, m, d, h0, hw, hf, h⟩
theorem go_c (h : Q d W) : aC d δ W Q := h
theorem go_next (h : A.nx δ W) : aNext A δ W := h
theorem go_break (h : A.bk δ W) : aBreak A δ W := h
theorem go_cont (h : A.ct δ W) : aCont A δ W := h
theorem go_i0 {f : Int → Int → D} (h : Q (f i j) W) : dI0 f (.int i) (.int j) W Q := ⟨i, j, rfl, rfl, h⟩
theorem go_iC {f : Int → Int → D} {C : Int → Int → Prop} (h0 : C i j) (h : Q (f i j) W) : dIC C f (.int i) (.int j) W Q := ⟨i, j, rfl, rfl, h0, h⟩
theorem go_u {f : Int → D} (h : Q (f i) W) : dU f (.int i) W Q := ⟨i, rfl, h⟩
theorem go_addI (h : Q (.int (i + j)) W) : dAdd own (.int i) (.int j) W Q := ⟨j, rfl, h⟩
theorem go_addS (h0 : x.length + y.length ≤ sizeLine) (h : Q (.str (x ++ y)) W) : dAdd own (.str x) (.str y) W Q := ⟨y, rfl, h0, h⟩
theorem go_addT (h0 : ds.length + es.length ≤ sizeLine) (h : Q (.tup (ds ++ es)) W) : dAdd own (.tup ds) (.tup es) W Q := ⟨es, rfl, h0, h⟩
theorem go_addL (h1 : lstOf W d = some ds) (h2 : lstOf W e = some es) (h0 : ds.length + es.length ≤ sizeLine) (h : newL own (ds ++ es) W Q) : dAdd own d e W Q := by
  cases d with
  | lst _ => exact ⟨ds, es, h1, h2, h0, h⟩
  | ptr _ => exact ⟨ds, es, h1, h2, h0, h⟩
  | _ => cases h1
theorem near_ii : (D.int i).near (.int j) := by simp [D.near, D.plain, D.py, PyData.depth]
theorem near_ss : (D.str x).near (.str y) := by simp [D.near, D.plain, D.py, PyData.depth]
@[simp] theorem eqv_ii : (D.int i).eqv (.int j) = decide (i = j) := by simp [D.eqv, D.py, PyData.eqv, Bool.beq_eq_decide_eq]
@[simp] theorem eqv_ss : (D.str x).eqv (.str y) = decide (x = y) := by simp [D.eqv, D.py, PyData.eqv, Bool.beq_eq_decide_eq]
@[simp] theorem eqv_bb {p q : Bool} : (D.bl p).eqv (.bl q) = decide (p = q) := by simp [D.eqv, D.py, PyData.eqv, Bool.beq_eq_decide_eq]
theorem go_eqI (h : Q (.bl (decide (i = j))) W) : dEq (.int i) (.int j) W Q := ⟨near_ii, by rw [eqv_ii]; exact h⟩
theorem go_neI (h : Q (.bl (!decide (i = j))) W) : dNe (.int i) (.int j) W Q := ⟨near_ii, by rw [eqv_ii]; exact h⟩
theorem go_eqS (h : Q (.bl (decide (x = y))) W) : dEq (.str x) (.str y) W Q := ⟨near_ss, by rw [eqv_ss]; exact h⟩
theorem go_neS (h : Q (.bl (!decide (x = y))) W) : dNe (.str x) (.str y) W Q := ⟨near_ss, by rw [eqv_ss]; exact h⟩
theorem go_isN (h : Q (.bl (isNon d)) W) : dIs false d .non W Q := .inl ⟨rfl, h⟩
theorem go_isnN (h : Q (.bl (!isNon d)) W) : dIs true d .non W Q := .inl ⟨rfl, h⟩
theorem go_isB {p q : Bool} (h : Q (.bl (decide (p = q))) W) : dIs false (.bl p) (.bl q) W Q := .inr ⟨p, q, rfl, rfl, h⟩
theorem go_isnB {p q : Bool} (h : Q (.bl (!decide (p = q))) W) : dIs true (.bl p) (.bl q) W Q := .inr ⟨p, q, rfl, rfl, h⟩
theorem go_ixT (h0 : atI ds i = some d) (h : Q d W) : dIx (.tup ds) (.int i) W Q := ⟨i, d, rfl, h0, h⟩
theorem go_ixT0 (h : Q d W) : dIx (.tup (d :: ds)) (.int 0) W Q := ⟨0, d, rfl, by simp, h⟩
theorem go_ixL0 (h : Q d W) : dIx (.lst (d :: ds)) (.int 0) W Q := dIx_l (ds := d :: ds) rfl (by simp) h
theorem go_ixS {n : Nat} (hz : x.length ≤ sizeLine) (h0 : atI x.cps.toList i = some n) (h : Q (.str ⟨#[n]⟩) W) : dIx (.str x) (.int i) W Q := ⟨i, n, rfl, hz, h0, h⟩
theorem go_ixL (h0 : atI ds i = some d) (h : Q d W) : dIx (.lst ds) (.int i) W Q := dIx_l rfl h0 h
theorem go_ixP {q : Addr} (hw : W q = some (.lst ds)) (h0 : atI ds i = some d) (h : Q d W) : dIx (.ptr q) (.int i) W Q := dIx_l (lstRd_ptr hw) h0 h
theorem go_slT {p q : Option Int} (h : Q (.tup (cutD ds p q)) W) : dSl own (.tup ds) p q W Q := h
theorem go_slL {p q : Option Int} (h : newL own (cutD ds p q) W Q) : dSl own (.lst ds) p q W Q := ⟨ds, rfl, h⟩
theorem go_slP {p q : Option Int} {m : Addr} (hw : W m = some (.lst ds)) (h : newL own (cutD ds p q) W Q) : dSl own (.ptr m) p q W Q := ⟨ds, lstRd_ptr hw, h⟩
theorem go_lenV {n : Nat} (h0 : lenOf W d = some n) (h : Q (.int n) W) : dLen [d] W Q := ⟨d, n, rfl, h0, h⟩
theorem go_isi {n m : String} (h0 : tyOf W d = some m) (h1 : n = "int" ∨ n = "bool" ∨ n = "str" ∨ n = "tuple" ∨ n = "list" ∨ n = "dict") (h2 : isiB m n = k) (h : Q (.bl k) W) : dIsi [d, .ty n] W Q := ⟨m, h0, h1, by rw [h2]; exact h⟩
theorem go_isiTI {t : Trm} (h : Q (.bl t.isVar) W) : dIsi [t.d, .ty "int"] W Q := ⟨_, tyOf_d W t, .inl rfl, by cases t <;> exact h⟩
theorem go_isiTT {t : Trm} (h : Q (.bl (!t.isVar)) W) : dIsi [t.d, .ty "tuple"] W Q := ⟨_, tyOf_d W t, by simp, by cases t <;> exact h⟩
theorem go_intI (h : Q (.int i) W) : dInt [.int i] W Q := h
theorem go_max2 (h : Q (.int (if j > i then j else i)) W) : dMax2 [.int i, .int j] W Q := ⟨i, j, rfl, h⟩
theorem go_min2 (h : Q (.int (if j < i then j else i)) W) : dMin2 [.int i, .int j] W Q := ⟨i, j, rfl, h⟩
theorem go_listL (h0 : lstRd W d = some es) (h : newL own es W Q) : dList own [d] W Q := ⟨d, es, rfl, .inl h0, h⟩
theorem go_listT (h : newL own es W Q) : dList own [.tup es] W Q := ⟨.tup es, es, rfl, .inr rfl, h⟩
theorem go_tupleL (h0 : lstRd W d = some es) (h : Q (.tup es) W) : dTuple [d] W Q := ⟨d, es, rfl, .inl h0, h⟩
theorem go_tupleT (h : Q (.tup es) W) : dTuple [.tup es] W Q := ⟨.tup es, es, rfl, .inr rfl, h⟩
theorem go_append {q : Addr} (hw : W q = some (.lst ds)) (h0 : ds.length < sizeLine) (h : Q .non (W.set q (.lst (ds ++ [d])))) : dAppend (.ptr q) [d] W Q := ⟨q, ds, d, rfl, rfl, hw, h0, h⟩
theorem go_extend {q : Addr} (hw : W q = some (.lst ds)) (h1 : lstOf W d = some es) (h0 : ds.length + es.length ≤ sizeLine) (h : Q .non (W.set q (.lst (ds ++ es)))) : dExtend (.ptr q) [d] W Q := ⟨q, ds, d, es, rfl, rfl, hw, h1, h0, h⟩
theorem go_setL {q : Addr} {n : Nat} {NW : Wd → Prop} (hw : W q = some (.lst ds)) (h0 : ixN ds.length i = some n) (h1 : ds.set n d = es) (h : NW (W.set q (.lst es))) : dSet (.ptr q) (.int i) d W NW := by subst h1; exact ⟨q, rfl, .inl ⟨ds, i, n, hw, rfl, h0, h⟩⟩
theorem go_setL2 {q : Addr} {n : Nat} {NW : Wd → Prop} (h0 : ixN ds.length i = some n) (h1 : ds.set n d = es) (h : NW (W.set q (.lst es))) : dSet (.ptr q) (.int i) d (W.set q (.lst ds)) NW := go_setL (Wd.set_same ..) h0 h1 (by rw [Wd.set_set]; exact h)
theorem go_append2 {q : Addr} (h0 : ds.length < sizeLine) (h : Q .non (W.set q (.lst (ds ++ [d])))) : dAppend (.ptr q) [d] (W.set q (.lst ds)) Q := go_append (Wd.set_same ..) h0 (by rw [Wd.set_set]; exact h)
theorem go_ltI (h : Q (.bl (decide (i < j))) W) : dLt (.int i) (.int j) W Q := by rw [dLt_int]; exact ⟨j, rfl, h⟩
theorem go_ltS (h : Q (.bl (decide (x.cps.toList < y.cps.toList))) W) : dLt (.str x) (.str y) W Q := by rw [dLt_str]; exact ⟨y, rfl, h⟩
theorem go_yes (h : QT true W) : aYes δ W QT := h
theorem go_iteT {p q : Prop} (h : p) : if true = true then p else q := by simpa using h
theorem go_iteF {p q : Prop} (h : q) : if false = true then p else q := by simpa using h
theorem go_iteC1 {c : Bool} {p q : Prop} (hc : c = true) (h : p) : if c = true then p else q := by rw [if_pos hc]; exact h
theorem go_iteC0 {c : Bool} {p q : Prop} (hc : c = false) (h : q) : if c = true then p else q := by rw [if_neg (by rw [hc]; decide)]; exact h
theorem go_iteD {c p q : Prop} [Decidable c] (h1 : c → p) (h2 : ¬ c → q) : if decide c = true then p else q := by
  by_cases h : c
  · simpa [h] using h1 h
  · simpa [h] using h2 h
theorem go_iteN {c p q : Prop} [Decidable c] (h1 : ¬ c → p) (h2 : c → q) : if (!decide c) = true then p else q := by
  by_cases h : c
  · simpa [h] using h2 h
  · simpa [h] using h1 h
theorem go_iteDN {c p q : Prop} [Decidable c] (h1 : c → p) (h2 : ¬ c → q) : if (!!decide c) = true then p else q := by
  by_cases h : c
  · simpa [h] using h1 h
  · simpa [h] using h2 h
end
end DL

namespace DL
open PySem PySem.Spec PyProof.Rows L2
theorem forL_inv {g : AG} {s : AS} {A : AEnds} {ok : Wd → Prop} {items : List D} {δ : Sl} {W : Wd} (I : List D → Sl → Wd → Prop) (h0 : I items δ W) (hok : ∀ ds δ W, I ds δ W → ok W)
    (hs : ∀ d ds δ W (N : Sl → Wd → Prop), I (d :: ds) δ W → (∀ δ W, I ds δ W → N δ W) → g d δ W fun δ' W' => s { A with nx := N, ct := N, bk := A.nx } δ' W')
    (hd : ∀ δ W, I [] δ W → A.nx δ W) : forL g s A ok items δ W := by
  have go : ∀ items δ W, I items δ W → forL g s A ok items δ W := by
    intro items
    induction items with
    | nil => exact fun δ W h => ⟨hok _ _ _ h, hd _ _ h⟩
    | cons d ds ih => exact fun δ W h => ⟨hok _ _ _ h, hs d ds δ W _ h fun δ W h => ih δ W h⟩
  exact go items δ W h0
def Low (x : Str) : Prop := ∀ c ∈ x.cps.toList, 97 ≤ c ∧ c ≤ 122
theorem app_list (x y : Str) : (x ++ y).cps.toList = x.cps.toList ++ y.cps.toList := by
  show (Str.append x y).cps.toList = _
  simp [Str.append]
theorem app_len (x y : Str) : (x ++ y).length = x.length + y.length := by
  show (Str.append x y).cps.size = _
  simp [Str.append, Str.length]
theorem len_list (x : Str) : x.length = x.cps.toList.length := by simp [Str.length]
theorem str_ext {x y : Str} (h : x.cps.toList = y.cps.toList) : x = y := by
  cases x; cases y; simp at h; rw [h]
theorem Low.app {x y : Str} (hx : Low x) (hy : Low y) : Low (x ++ y) := fun c h => by
  rw [app_list] at h
  rcases List.mem_append.mp h with h | h
  · exact hx c h
  · exact hy c h
theorem join0 : ∀ ys : List Str, (Txt.join ("" : Str) ys).cps.toList = (ys.map fun y => y.cps.toList).flatten := by
  intro ys
  show (Builtin.Str.glued ("" : Str) ys).cps.toList = _
  rw [StrLaws.glued_eq_join]
  induction ys with
  | nil => rfl
  | cons x r ih => cases r with
    | nil => simp [Str.join]
    | cons y r =>
      rw [Str.join, app_list, app_list, ih]
      · have : (("" : Str)).cps.toList = [] := by decide +kernel
        rw [this]; simp
      · intro e; cases e
def abc : Str := "abcdefghijklmnopqrstuvwxyz"
theorem abc_len : abc.length = 26 := by decide +kernel
theorem abc_at : ∀ n : Nat, n < 26 → abc.cps.toList[n]? = some (97 + n) := by
  have : ∀ n : Fin 26, abc.cps.toList[n.val]? = some (97 + n.val) := by decide +kernel
  exact fun n h => this ⟨n, h⟩
theorem go_abc {i : Int} {W : Wd} {Q : DQ} (h0 : 0 ≤ i) (h1 : i < 26) (h : Q (.str ⟨#[97 + i.toNat]⟩) W) : dIx (.str "abcdefghijklmnopqrstuvwxyz") (.int i) W Q :=
  go_ixS (n := 97 + i.toNat) (by show abc.length ≤ _; rw [abc_len, sizeLine_val]; decide) (by show atI abc.cps.toList i = _; rw [atI_of h0]; exact abc_at _ (by omega)) h
theorem go_join {W : Wd} {Q : DQ} {ys : List Str} {a : Str} (hz : (ys.map (·.length)).sum + ys.length * a.length ≤ 16777216) (h : Q (.str (Txt.join a ys)) W) : dJoin (.str a) [.lst (ys.map .str)] W Q :=
  ⟨a, _, ys, rfl, rfl, .inl rfl, hz, h⟩
theorem ones_sum : ∀ ys : List Str, (∀ y ∈ ys, y.length = 1) → (ys.map (·.length)).sum = ys.length
  | [], _ => rfl
  | y :: ys, h => by
    rw [List.map_cons, List.sum_cons, ones_sum ys (fun z hz => h z (List.mem_cons_of_mem _ hz)), h y List.mem_cons_self, List.length_cons]; omega
theorem word_of {ys : List Str} (h : ∀ y ∈ ys, ∃ c, y = ⟨#[c]⟩ ∧ 97 ≤ c ∧ c ≤ 122) : Low (Txt.join ("" : Str) ys) ∧ (Txt.join ("" : Str) ys).length = ys.length := by
  refine ⟨fun c hc => ?_, ?_⟩
  · rw [join0, List.mem_flatten] at hc
    obtain ⟨l, hl, hc⟩ := hc
    obtain ⟨y, hy, rfl⟩ := List.mem_map.mp hl
    obtain ⟨d, rfl, hd⟩ := h y hy
    simp at hc
    rw [hc]; exact hd
  · rw [len_list, join0, List.length_flatten, List.map_map]
    have := ones_sum ys fun y hy => by obtain ⟨c, rfl, _⟩ := h y hy; rfl
    rw [← this]
    congr 1
theorem map_str_of {ds : List D} (h : ∀ d ∈ ds, ∃ c, d = .str ⟨#[c]⟩ ∧ 97 ≤ c ∧ c ≤ 122) : ∃ ys : List Str, ds = ys.map .str ∧ ys.length = ds.length ∧ ∀ y ∈ ys, ∃ c, y = ⟨#[c]⟩ ∧ 97 ≤ c ∧ c ≤ 122 := by
  induction ds with
  | nil => exact ⟨[], rfl, rfl, fun y h => by cases h⟩
  | cons d ds ih =>
    obtain ⟨ys, rfl, e, g⟩ := ih fun x hx => h x (List.mem_cons_of_mem _ hx)
    obtain ⟨c, rfl, hc⟩ := h d List.mem_cons_self
    refine ⟨⟨#[c]⟩ :: ys, rfl, by rw [List.length_cons, List.length_cons, e], fun y hy => ?_⟩
    rcases List.mem_cons.mp hy with e | hy
    · exact ⟨c, e, hc⟩
    · exact g y hy
/-- each element draws from the state -/
theorem lcE_draw {i : Nat} {e : AE} {δ : Sl} {items : List D} {W : Wd} {Q : DQ} {st : Addr} {o : MO} (I : List D → List D → Prop) (hw : W st = some o) (ho : StO o) (h0 : I items []) (hz : items.length ≤ sizeLine)
    (hs : ∀ d ds acc (W' : Wd) o (Q' : DQ), I (d :: ds) acc → W' st = some o → StO o → (∀ y o', StO o' → I ds (acc ++ [y]) → Q' y (W'.set st o')) → e (δ.set i (some d)) W' Q')
    (hd : ∀ acc o', I [] acc → StO o' → Q (.lst acc) (W.set st o')) : lcE false (agName i) aYes e (fun _ => True) δ items W Q := by
  refine lcE_inv (fun ds acc W' => I ds acc ∧ ∃ o, StO o ∧ W' = W.set st o) ⟨h0, o, ho, (Wd.set_self hw).symm⟩ hz ?_ ?_
  · rintro d ds acc W' L Q' ⟨h1, o, h2, rfl⟩ hL k
    have ne : L ≠ st := fun e => by subst e; simp at hL
    refine hs d ds acc _ o Q' h1 (Wd.set_fresh hL (Wd.set_same _ _ _)) h2 fun y o' h3 h4 => ?_
    rw [Wd.set_comm ne, Wd.set_set]
    refine k y (W.set st o') ?_ ⟨h4, o', h3, rfl⟩
    rw [Wd.set_ne ne] at hL ⊢
    exact hL
  · rintro acc W' ⟨h1, o, h2, rfl⟩
    exact hd acc o h1 h2
end DL

namespace DL
open PySem PySem.Spec PyProof.Rows L2
def Nm (x : Str) : Prop := Low x ∧ 1 ≤ x.length ∧ x.length ≤ 7
abbrev Sig := List (Str × Nat)
def opD (x : Str × Nat) : D := .tup [.str x.1, .int x.2]
def arV (n : Nat) : List Nat := if n = 6 then [0, 0, 1, 2, 2, 3] else [0, 0, 1, 2, 3].take n
def Ops (ops : Sig) : Prop := (ops.length = 4 ∨ ops.length = 5 ∨ ops.length = 6) ∧ ops.map Prod.snd = arV ops.length ∧ (ops.map Prod.fst).Nodup ∧ ∀ x ∈ ops, Nm x.1
inductive Wf (ops : Sig) (n : Int) : Trm → Prop
  | var {v : Int} (h0 : 0 ≤ v) (h1 : v < n) : Wf ops n (.var v)
  | app {f : Str} {ts : List Trm} (h0 : (f, ts.length) ∈ ops) (h1 : ∀ t ∈ ts, Wf ops n t) : Wf ops n (.app f ts)
/-- no place with many arguments -/
inductive Sm : Trm → Prop
  | var {v : Int} : Sm (.var v)
  | app {f : Str} {ts : List Trm} (h0 : ts.length ≤ 1000) (h1 : ∀ t ∈ ts, Sm t) : Sm (.app f ts)
theorem Ops.len {ops : Sig} (h : Ops ops) : 4 ≤ ops.length ∧ ops.length ≤ 6 := by rcases h.1 with e | e | e <;> omega
theorem Ops.snd_at {ops : Sig} (h : Ops ops) (i : Nat) (hi : i < ops.length) : (arV ops.length)[i]? = some (ops[i]).2 := by
  rw [← h.2.1, List.getElem?_map, List.getElem?_eq_getElem hi]; rfl
theorem Ops.low {ops : Sig} (h : Ops ops) (i : Nat) (hi : i < 3) : ∃ hl : i < ops.length, (ops[i]).2 = ([0, 0, 1] : List Nat).getD i 0 := by
  have hl := h.len
  have hil : i < ops.length := by omega
  have a := h.snd_at i hil
  refine ⟨hil, ?_⟩
  match i, hi with
  | 0, _ => rcases h.1 with e | e | e <;> (rw [e] at a; simp [arV] at a; simp [← a])
  | 1, _ => rcases h.1 with e | e | e <;> (rw [e] at a; simp [arV] at a; simp [← a])
  | 2, _ => rcases h.1 with e | e | e <;> (rw [e] at a; simp [arV] at a; simp [← a])
theorem Ops.le3 {ops : Sig} (h : Ops ops) {x : Str × Nat} (hx : x ∈ ops) : x.2 ≤ 3 := by
  have : x.2 ∈ ops.map Prod.snd := List.mem_map_of_mem hx
  rw [h.2.1] at this
  rcases h.1 with e | e | e <;> (rw [e] at this; simp [arV] at this; omega)
theorem Wf.sm {ops : Sig} {n : Int} (ho : Ops ops) {t : Trm} (h : Wf ops n t) : Sm t := by
  induction h with
  | var => exact .var
  | app h0 _ ih =>
    have := ho.le3 h0
    exact .app (by simp at this; omega) ih
theorem Sm.args {f : Str} {ts : List Trm} (h : Sm (.app f ts)) : ts.length ≤ 1000 ∧ ∀ t ∈ ts, Sm t := by
  cases h with | app h0 h1 => exact ⟨h0, h1⟩
theorem Wf.args {ops : Sig} {n : Int} {f : Str} {ts : List Trm} (h : Wf ops n (.app f ts)) : (f, ts.length) ∈ ops ∧ ∀ t ∈ ts, Wf ops n t := by
  cases h with | app h0 h1 => exact ⟨h0, h1⟩
theorem depth_app_le {f : Str} {ts : List Trm} {n : Nat} : (Trm.app f ts).depth ≤ n + 1 ↔ ∀ t ∈ ts, t.depth ≤ n := by
  rw [Trm.depth]
  have : ∀ ts : List Trm, Trm.depths ts ≤ n ↔ ∀ t ∈ ts, t.depth ≤ n := by
    intro ts
    induction ts with
    | nil => simp [Trm.depths]
    | cons t ts ih => rw [Trm.depths, Nat.max_le, ih]; simp
  rw [← this]; omega
theorem plains_of {ds : List D} (h : ∀ d ∈ ds, d.plain = true) : D.plains ds = true := by
  rw [D.plains_all, List.all_eq_true]; exact h
theorem depthAll_le {n : Nat} : ∀ {ds : List D}, (∀ d ∈ ds, d.py.depth ≤ n) → PyData.depthAll (D.pys ds) ≤ n
  | [], _ => by simp [D.pys, PyData.depthAll]
  | d :: ds, h => by
    rw [D.pys, PyData.depthAll]
    exact Nat.max_le.mpr ⟨h d List.mem_cons_self, depthAll_le fun x hx => h x (List.mem_cons_of_mem _ hx)⟩
def szB : Nat → Nat
  | 0 => 1
  | k + 1 => 1 + 3 * szB k
theorem szB_pos : ∀ k, 1 ≤ szB k
  | 0 => Nat.le_refl _
  | _ + 1 => Nat.le_add_right _ _
theorem sizes_le {n : Nat} : ∀ {ts : List Trm}, (∀ t ∈ ts, t.size ≤ n) → Trm.sizes ts ≤ ts.length * n
  | [], _ => by simp [Trm.sizes]
  | t :: ts, h => by
    rw [Trm.sizes, List.length_cons, Nat.add_mul]
    have := h t List.mem_cons_self
    have := sizes_le fun u hu => h u (List.mem_cons_of_mem _ hu)
    omega
theorem Trm.size_pos (t : Trm) : 1 ≤ t.size := by cases t <;> simp [Trm.size]
theorem length_sizes : ∀ ts : List Trm, ts.length ≤ Trm.sizes ts
  | [] => Nat.le_refl _
  | t :: ts => by rw [Trm.sizes, List.length_cons]; have := length_sizes ts; have := t.size_pos; omega
theorem size_mem {t : Trm} : ∀ {ts : List Trm}, t ∈ ts → t.size ≤ Trm.sizes ts
  | [], h => by cases h
  | u :: us, h => by
    rw [Trm.sizes]
    rcases List.mem_cons.mp h with e | h
    · rw [e]; omega
    · have := size_mem h; omega
end DL

namespace DL
open PySem PySem.Spec PyProof.Rows L2 RZ SkE
section
variable {X : Cx} {G0 : Hp} {pos apos cpos p : Pos} {o e f : Expr} {to te tf : TE} {ao ae af : AE}
def aDk0 : AE := fun _ W Q => ∀ p, W p = none → Q (.ptr p) (W.set p (.dk []))
theorem de_dk0 : DE X G0 (.Dict [] [] pos) tDNewK aDk0 := ⟨pe_dnewK, fun σ H Q G δ W QD s0 R S h k p hp => k (.ref p) (.ptr p) G _ _ (Same.refl G) (R.newOwn (m := .dk []) hp ⟨[], rfl, rfl⟩) rfl (h p (R.freeW hp))⟩
def aDk0F : AE := aC (.dk [])
def dctV (d : D) (W : Wd) : Prop := (∃ kds, dkOf W d = some kds) ∨ ∃ kds, dtOf W d = some kds
def aGet1 (a b : AE) : AE := fun δ W Q => a δ W fun x W1 => dctV x W1 ∧ b δ W1 fun y W2 => ∃ r, dGet W2 x y r ∧ Q (r.getD .non) W2
def aGet2 (a b c : AE) : AE := fun δ W Q => a δ W fun x W1 => dctV x W1 ∧ b δ W1 fun y W2 => c δ W2 fun z W3 => ∃ r, dGet W3 x y r ∧ Q (r.getD z) W3
def zipD (xs ys : List D) : List D := List.zipWith (fun a b => .tup [a, b]) xs ys
def aiZip (t : AA) : AI := fun δ W N => t δ W fun ds W1 => ∃ x y xs ys, ds = [x, y] ∧ ((lstRd W1 x = some xs ∧ lstRd W1 y = some ys ∧ N (zipD xs ys) (fun W => okOf x xs W ∧ okOf y ys W) W1) ∨ (x = .tup xs ∧ y = .tup ys ∧ N (zipD xs ys) (fun _ => True) W1))
variable {ta : L2.TA} {aa : AA} {a b : Expr} {elts : List Expr} {kk : Nat} {tpos : Pos}
def aFmt (a : AE) : AE := fun δ W Q => a δ W fun x W1 => (∃ y : Str, x = .str y ∧ y.length ≤ sizeLine ∧ Q (.str y) W1) ∨ ∃ i : Int, x = .int i ∧ i.natAbs.log2 < 1920 ∧ Q (.str (toString i)) W1
def aJs : List AE → Str → Sl → Wd → (Str → Wd → Prop) → Prop
  | [], acc, _, W, Q => Q acc W
  | a :: as, acc, δ, W, Q => a δ W fun x W1 => ∃ y : Str, x = .str y ∧ (acc ++ y).length ≤ sizeLine ∧ aJs as (acc ++ y) δ W1 Q
def aJ (as : List AE) : AE := fun δ W Q => aJs as Str.empty δ W fun out W1 => Q (.str out) W1
inductive DJ (X : Cx) (G0 : Hp) : List Expr → List TE → List AE → Prop where
  | nil : DJ X G0 [] [] []
  | cons {e : Expr} {t : TE} {a : AE} {es : List Expr} {ts : List TE} {as : List AE} (h : DE X G0 e t a) (r : DJ X G0 es ts as) : DJ X G0 (e :: es) (t :: ts) (a :: as)
theorem DJ.sim {es : List Expr} {ts : List TE} {as : List AE} (h : DJ X G0 es ts as) : ∀ (acc : Str) (σ : L2.St) (H : Hp) (Q : Str → Hp → Prop) (G : Hp) (δ : Sl) (W : Wd) (QD : Str → Wd → Prop), Same G0 G → Rel X.K G H W → IsSl X.K G δ σ → aJs as acc δ W QD →
    (∀ z G' H' W', Same G G' → Rel X.K G' H' W' → QD z W' → Q z H') → tJs ts acc σ H Q := by
  induction h with
  | nil => exact fun acc σ H Q G δ W QD s0 R S h k => k acc G H W (Same.refl G) R h
  | cons hd _ ih =>
    intro acc σ H Q G δ W QD s0 R S h k
    refine hd.sim σ H _ G δ W _ s0 R S h fun x dx G1 H1 W1 s1 R1 d1 ⟨y, ey, hz, q⟩ => ?_
    subst ey
    exact ⟨y, d1, hz, ih _ σ H1 Q G1 δ W1 QD (s0.trans s1) R1 (S.up s1) q fun z G' H' W' s R' => k z G' H' W' (s1.trans s) R'⟩
end
def aPar (i j : Nat) (t : AA) : AS := fun A δ W => t δ W fun ds W1 => ∃ d e, ds = [d, e] ∧ A.nx ((δ.set i (some d)).set j (some e)) W1
theorem go_par {i j : Nat} {t : AA} {A : AEnds} {δ : Sl} {W : Wd} (h : t δ W fun ds W1 => ∃ d e, ds = [d, e] ∧ A.nx ((δ.set i (some d)).set j (some e)) W1) : aPar i j t A δ W := h
theorem go_par2 {d e : D} {p : D → D → Prop} (h : p d e) : ∃ d' e', [d, e] = [d', e'] ∧ p d' e' := ⟨d, e, rfl, h⟩
def keyD : Key → D
  | .inl i => .int i
  | .inr x => .str x
theorem keyD_at {K : PySem.W.Frag} {G : Hp} (k : Key) : IsD K G (keyD k) (kV k) := by cases k <;> rfl
theorem IsKs.get {K : PySem.W.Frag} {G : Hp} : ∀ {kds : List (Key × D)} {kvs : List (Key × V)} {i : Nat} {k : Key} {v : V}, IsKs K G kds kvs → kvs[i]? = some (k, v) → ∃ d, kds[i]? = some (k, d) ∧ IsD K G d v
  | [], _, _, _, _, h, e => by cases h; simp at e
  | (k', d) :: ds, _, 0, _, _, h, e => by
    obtain ⟨v, r, rfl, h1, _⟩ := h
    simp at e
    obtain ⟨rfl, rfl⟩ := e
    exact ⟨d, rfl, h1⟩
  | (k', d) :: ds, _, i + 1, _, _, h, e => by
    obtain ⟨v, r, rfl, _, h2⟩ := h
    obtain ⟨d', e2, q⟩ := IsKs.get (i := i) h2 (by simpa using e)
    exact ⟨d', by simpa using e2, q⟩
section
variable {K : PySem.W.Frag} {G0 G H : Hp} {W : Wd}
/-- the statement runs while the dict in slot i is locked -/
def aLockK (i : Nat) (f : List (Key × D) → AS) : AS := fun A δ W => ∃ kds, δ[i]? = some (some (.dk kds)) ∧ f kds A δ W
end
section
variable {X : Cx} {G0 : Hp} {pos apos cpos p : Pos}
def aForKeys (i : Nat) (g : AG) (b : AS) : AS := aLockK i fun kds A δ W => forL g b A (fun _ => True) (kds.map fun kv => keyD kv.1) δ W
def aForVals (i : Nat) (g : AG) (b : AS) : AS := aLockK i fun kds A δ W => forL g b A (fun _ => True) (kds.map fun kv => kv.2) δ W
def aForItems (i : Nat) (g : AG) (b : AS) : AS := aLockK i fun kds A δ W => forL g b A (fun _ => True) (kds.map fun kv => .tup [keyD kv.1, kv.2]) δ W
variable {tg : Expr} {body : List Stmt} {g : TG} {ag : AG} {tb : TS} {ab : AS} {i : Nat} {x : Str}
variable {elts : List Expr} {kk : Nat} {tpos : Pos}
end
end DL
namespace DL
open PySem PySem.Spec PyProof.Rows L2
section
variable {δ δ' : Sl} {W W1 : Wd} {Q : DQ} {A : AEnds} {N : Sl → Wd → Prop} {M : List D → (Wd → Prop) → Wd → Prop} {a b c : AE} {l : AA} {s : AS} {g : AG} {d e : D} {ds es : List D} {i j : Int} {x y z : Str} {q : Addr} {kds : List (Key × D)} {k : Key} {r : Option D}
theorem go_dk0F (h : Q (.dk []) W) : aDk0F δ W Q := h
theorem go_get1 (h : a δ W fun x W1 => dctV x W1 ∧ b δ W1 fun y W2 => ∃ r, dGet W2 x y r ∧ Q (r.getD .non) W2) : aGet1 a b δ W Q := h
theorem go_get2 (h : a δ W fun x W1 => dctV x W1 ∧ b δ W1 fun y W2 => c δ W2 fun z W3 => ∃ r, dGet W3 x y r ∧ Q (r.getD z) W3) : aGet2 a b c δ W Q := h
theorem go_dv {p : Prop} (h0 : dkOf W d = some kds) (h : p) : dctV d W ∧ p := ⟨.inl ⟨_, h0⟩, h⟩
theorem go_inDk (h1 : keyOf e = some k) (h : Q (.bl (look kds k).isSome) W) : dIn false e (.dk kds) W Q := .inr ⟨_, .inl ⟨kds, k, rfl, h1, rfl⟩, h⟩
theorem go_ninDk (h1 : keyOf e = some k) (h : Q (.bl (!(look kds k).isSome)) W) : dIn true e (.dk kds) W Q := .inr ⟨_, .inl ⟨kds, k, rfl, h1, rfl⟩, h⟩
theorem go_inDp (hw : W q = some (.dk kds)) (h1 : keyOf e = some k) (h : Q (.bl (look kds k).isSome) W) : dIn false e (.ptr q) W Q := .inr ⟨_, .inl ⟨kds, k, dkOf_ptr hw, h1, rfl⟩, h⟩
theorem go_ninDp (hw : W q = some (.dk kds)) (h1 : keyOf e = some k) (h : Q (.bl (!(look kds k).isSome)) W) : dIn true e (.ptr q) W Q := .inr ⟨_, .inl ⟨kds, k, dkOf_ptr hw, h1, rfl⟩, h⟩
theorem go_setDk {N : Wd → Prop} (hw : W q = some (.dk kds)) (h1 : keyOf e = some k) (hz : kds.length < sizeLine) (h : N (W.set q (.dk (dput kds k d)))) : dSet (.ptr q) e d W N := ⟨q, rfl, .inr (.inl ⟨kds, k, hw, h1, hz, h⟩)⟩
theorem go_zip (h : l δ W fun ds W1 => ∃ x y xs ys, ds = [x, y] ∧ ((lstRd W1 x = some xs ∧ lstRd W1 y = some ys ∧ M (zipD xs ys) (fun W => okOf x xs W ∧ okOf y ys W) W1) ∨ (x = .tup xs ∧ y = .tup ys ∧ M (zipD xs ys) (fun _ => True) W1))) : aiZip l δ W M := h
theorem go_fmt (h : a δ W fun x W1 => (∃ y : Str, x = .str y ∧ y.length ≤ sizeLine ∧ Q (.str y) W1) ∨ ∃ i : Int, x = .int i ∧ i.natAbs.log2 < 1920 ∧ Q (.str (toString i)) W1) : aFmt a δ W Q := h
theorem go_j {as : List AE} (h : aJs as Str.empty δ W fun out W1 => Q (.str out) W1) : aJ as δ W Q := h
theorem go_jc {as : List AE} {acc : Str} {QS : Str → Wd → Prop} (h : a δ W fun x W1 => ∃ y : Str, x = .str y ∧ (acc ++ y).length ≤ sizeLine ∧ aJs as (acc ++ y) δ W1 QS) : aJs (a :: as) acc δ W QS := h
theorem go_jn {acc : Str} {QS : Str → Wd → Prop} (h : QS acc W) : aJs [] acc δ W QS := h
theorem go_keys {n : Nat} (h0 : δ[n]? = some (some (.dk kds))) (h : forL g s A (fun _ => True) (kds.map fun kv => keyD kv.1) δ W) : aForKeys n g s A δ W := ⟨kds, h0, h⟩
theorem go_vals {n : Nat} (h0 : δ[n]? = some (some (.dk kds))) (h : forL g s A (fun _ => True) (kds.map fun kv => kv.2) δ W) : aForVals n g s A δ W := ⟨kds, h0, h⟩
theorem go_items {n : Nat} (h0 : δ[n]? = some (some (.dk kds))) (h : forL g s A (fun _ => True) (kds.map fun kv => .tup [keyD kv.1, kv.2]) δ W) : aForItems n g s A δ W := ⟨kds, h0, h⟩
theorem put_new {α : Type} {xs : List (Key × α)} {k : Key} {v : α} (h : look xs k = none) : dput xs k v = xs ++ [(k, v)] := by
  unfold dput
  rw [if_neg]
  intro g
  obtain ⟨x, hx, e⟩ := List.any_eq_true.mp g
  unfold look at h
  rw [Option.map_eq_none_iff, List.find?_eq_none] at h
  exact h x hx e
@[simp] theorem look_nil : look ([] : List (Key × D)) k = none := rfl
end
end DL

namespace DL
open PySem PySem.Spec PyProof.Rows L2
def itx (i : Int) : Str := toString i
mutual
def Trm.wr : Trm → Str
  | .var n => ("x" : Str) ++ itx n
  | .app f [] => f
  | .app f (t :: ts) => f ++ ("(" : Str) ++ Txt.join (", " : Str) (t.wr :: Trm.wrs ts) ++ (")" : Str)
def Trm.wrs : List Trm → List Str
  | [] => []
  | t :: ts => t.wr :: Trm.wrs ts
end
/-- names and variables are short -/
inductive Tx : Trm → Prop
  | var {v : Int} (h0 : 0 ≤ v) (h1 : v < 1000) : Tx (.var v)
  | app {f : Str} {ts : List Trm} (h0 : f.length ≤ 7) (h1 : ∀ t ∈ ts, Tx t) : Tx (.app f ts)
theorem Tx.args {f : Str} {ts : List Trm} (h : Tx (.app f ts)) : f.length ≤ 7 ∧ ∀ t ∈ ts, Tx t := by
  cases h with | app h0 h1 => exact ⟨h0, h1⟩
end DL

namespace DL
open PySem PySem.Spec PyProof.Rows L2
theorem Trm.depth_py (t : Trm) : t.d.py.depth ≤ t.depth := by
  induction t using Trm.ind with
  | hv n => simp [D.py, PyData.depth]
  | ha f ts ih =>
    rw [Trm.d_app, D.py, PyData.depth, Trm.depth]
    have : PyData.depthAll (D.pys (.str f :: ts.map Trm.d)) ≤ Trm.depths ts := depthAll_le fun d hd => by
      rcases List.mem_cons.mp hd with e | hd
      · rw [e]; simp [D.py, PyData.depth]
      · obtain ⟨t, ht, rfl⟩ := List.mem_map.mp hd
        exact Nat.le_trans (ih t ht) (Trm.depths_le ht)
    omega
theorem eqvAll_iff {ts : List Trm} (ih : ∀ t ∈ ts, ∀ u : Trm, PyData.eqv t.d.py u.d.py = true ↔ t = u) : ∀ us : List Trm, PyData.eqvAll (D.pys (ts.map Trm.d)) (D.pys (us.map Trm.d)) = true ↔ ts = us := by
  induction ts with
  | nil => intro us; cases us <;> simp [D.pys, PyData.eqvAll]
  | cons t ts ih2 =>
    intro us
    cases us with
    | nil => simp [D.pys, PyData.eqvAll]
    | cons u us =>
      simp only [List.map_cons, D.pys, PyData.eqvAll, Bool.and_eq_true, List.cons.injEq]
      rw [ih t List.mem_cons_self u, ih2 (fun x hx => ih x (List.mem_cons_of_mem _ hx)) us]
theorem Trm.eqv_iff (t : Trm) : ∀ u : Trm, PyData.eqv t.d.py u.d.py = true ↔ t = u := by
  induction t using Trm.ind with
  | hv n => intro u; cases u <;> simp [D.py, PyData.eqv]
  | ha f ts ih =>
    intro u
    cases u with
    | var m => simp [D.py, PyData.eqv]
    | app g us =>
      simp only [Trm.d_app, D.py, D.pys, PyData.eqv, PyData.eqvAll, Bool.and_eq_true, beq_iff_eq, Trm.app.injEq]
      rw [eqvAll_iff ih us]
instance : DecidableEq Trm := fun t u => if h : PyData.eqv t.d.py u.d.py = true then isTrue ((t.eqv_iff u).mp h) else isFalse fun e => h ((t.eqv_iff u).mpr e)
mutual
def Trm.pos : Trm → List (List Int)
  | .var _ => [[]]
  | .app _ ts => [] :: Trm.poss 1 ts
def Trm.poss (i : Int) : List Trm → List (List Int)
  | [] => []
  | t :: ts => t.pos.map (i :: ·) ++ Trm.poss (i + 1) ts
end
def posD (p : List Int) : D := .tup (p.map .int)
inductive Pos : Trm → List Int → Prop
  | nil {t : Trm} : Pos t []
  | cons {f : Str} {ts : List Trm} {i : Int} {t : Trm} {p : List Int} (h0 : 1 ≤ i) (h1 : ts[(i - 1).toNat]? = some t) (h : Pos t p) : Pos (.app f ts) (i :: p)
theorem poss_mem {p : List Int} : ∀ {ts : List Trm} {i : Int}, p ∈ Trm.poss i ts → ∃ j : Nat, ∃ t, ts[j]? = some t ∧ ∃ q ∈ t.pos, p = (i + j) :: q
  | [], _, h => by cases h
  | t :: ts, i, h => by
    rw [Trm.poss] at h
    rcases List.mem_append.mp h with h | h
    · obtain ⟨q, hq, rfl⟩ := List.mem_map.mp h
      exact ⟨0, t, rfl, q, hq, by simp⟩
    · obtain ⟨j, u, e, q, hq, rfl⟩ := poss_mem h
      exact ⟨j + 1, u, by simpa using e, q, hq, by congr 1; omega⟩
theorem pos_ok (t : Trm) : ∀ p ∈ t.pos, Pos t p := by
  induction t using Trm.ind with
  | hv n => intro p hp; rw [Trm.pos, List.mem_singleton] at hp; rw [hp]; exact .nil
  | ha f ts ih =>
    intro p hp
    rw [Trm.pos] at hp
    rcases List.mem_cons.mp hp with e | hp
    · rw [e]; exact .nil
    · obtain ⟨j, t, e, q, hq, rfl⟩ := poss_mem hp
      exact .cons (by omega) (by rw [show (1 + (j : Int) - 1).toNat = j by omega]; exact e) (ih t (List.mem_of_getElem? e) q hq)
theorem pos_pos (t : Trm) : 1 ≤ t.pos.length := by cases t <;> simp [Trm.pos]
theorem poss_length : ∀ (ts : List Trm) (i : Int), (∀ t ∈ ts, t.pos.length = t.size) → (Trm.poss i ts).length = Trm.sizes ts
  | [], _, _ => rfl
  | t :: ts, i, h => by
    rw [Trm.poss, List.length_append, List.length_map, poss_length ts _ fun u hu => h u (List.mem_cons_of_mem _ hu), h t List.mem_cons_self, Trm.sizes]
theorem pos_length (t : Trm) : t.pos.length = t.size := by
  induction t using Trm.ind with
  | hv n => rfl
  | ha f ts ih => rw [Trm.pos, List.length_cons, poss_length ts 1 ih, Trm.size]; omega
theorem Pos.short {t : Trm} {p : List Int} (h : Pos t p) : p.length < t.depth := by
  induction h with
  | nil => exact Trm.depth_pos _
  | @cons f ts i t p h0 h1 _ ih =>
    rw [List.length_cons, Trm.depth]
    have := Trm.depths_le (List.mem_of_getElem? h1)
    omega
def Trm.put : Trm → List Int → Trm → Trm
  | _, [], u => u
  | .var v, _ :: _, _ => .var v
  | .app f ts, i :: p, u => match ts[(i - 1).toNat]? with
    | some t => .app f (ts.set (i - 1).toNat (t.put p u))
    | none => .app f ts
theorem put_cons {f : Str} {ts : List Trm} {i : Int} {t u : Trm} {p : List Int} (h1 : ts[(i - 1).toNat]? = some t) : (Trm.app f ts).put (i :: p) u = .app f (ts.set (i - 1).toNat (t.put p u)) := by
  rw [Trm.put]; split
  · rename_i e; rw [h1] at e; cases e; rfl
  · rename_i e; rw [h1] at e; cases e
theorem mem_set {ts : List Trm} {n : Nat} {x t : Trm} (h : t ∈ ts.set n x) : t ∈ ts ∨ t = x := List.mem_or_eq_of_mem_set h
theorem Wf.put {ops : Sig} {n : Int} {t u : Trm} {p : List Int} (h : Pos t p) (ht : Wf ops n t) (hu : Wf ops n u) : Wf ops n (t.put p u) := by
  induction h with
  | nil => rw [Trm.put]; exact hu
  | @cons f ts i t p h0 h1 _ ih =>
    rw [put_cons h1]
    obtain ⟨a, b⟩ := ht.args
    refine .app (by rw [List.length_set]; exact a) fun x hx => ?_
    rcases mem_set hx with hx | e
    · exact b x hx
    · rw [e]; exact ih (b t (List.mem_of_getElem? h1))
theorem depths_le_iff {n : Nat} : ∀ ts : List Trm, Trm.depths ts ≤ n ↔ ∀ t ∈ ts, t.depth ≤ n
  | [] => by simp [Trm.depths]
  | t :: ts => by rw [Trm.depths, Nat.max_le, depths_le_iff ts]; simp
theorem sizes_set {x : Trm} : ∀ {ts : List Trm} {n : Nat} {t : Trm}, ts[n]? = some t → Trm.sizes (ts.set n x) + t.size = Trm.sizes ts + x.size
  | [], _, _, h => by simp at h
  | t :: ts, 0, u, h => by simp at h; subst h; simp [Trm.sizes]; omega
  | t :: ts, n + 1, u, h => by
    have := sizes_set (x := x) (ts := ts) (n := n) (t := u) (by simpa using h)
    simp only [List.set_cons_succ, Trm.sizes]; omega
theorem put_size {t u : Trm} {p : List Int} (h : Pos t p) : (t.put p u).size ≤ t.size + u.size := by
  induction h with
  | nil => rw [Trm.put]; omega
  | @cons f ts i t p h0 h1 _ ih =>
    rw [put_cons h1, Trm.size, Trm.size]
    have := sizes_set (x := t.put p u) h1
    omega
mutual
def Trm.sub (s : Int → Trm) : Trm → Trm
  | .var v => s v
  | .app f ts => .app f (Trm.subs s ts)
def Trm.subs (s : Int → Trm) : List Trm → List Trm
  | [] => []
  | t :: ts => t.sub s :: Trm.subs s ts
end
theorem subs_map (s : Int → Trm) : ∀ ts : List Trm, Trm.subs s ts = ts.map (Trm.sub s)
  | [] => rfl
  | t :: ts => by rw [Trm.subs, subs_map s ts, List.map_cons]
theorem sub_app (s : Int → Trm) (f : Str) (ts : List Trm) : (Trm.app f ts).sub s = .app f (ts.map (Trm.sub s)) := by rw [Trm.sub, subs_map]
theorem Wf.sub {ops : Sig} {n m : Int} {s : Int → Trm} (hs : ∀ v, 0 ≤ v → v < n → Wf ops m (s v)) {t : Trm} (h : Wf ops n t) : Wf ops m (t.sub s) := by
  induction h with
  | var h0 h1 => rw [Trm.sub]; exact hs _ h0 h1
  | app h0 _ ih =>
    rw [sub_app]
    refine .app (by rw [List.length_map]; exact h0) fun x hx => ?_
    obtain ⟨t, ht, rfl⟩ := List.mem_map.mp hx
    exact ih t ht
abbrev Sb := List (Int × Trm)
def dkS (s : Sb) : List (Key × D) := s.map fun vt => (.inl vt.1, vt.2.d)
def Sb.get (s : Sb) (v : Int) : Option Trm := (s.find? fun vt => decide (vt.1 = v)).map (·.2)
def Sb.fn (s : Sb) (v : Int) : Trm := (s.get v).getD (.var v)
theorem get_mem {s : Sb} {v : Int} {t : Trm} (h : s.get v = some t) : (v, t) ∈ s := by
  unfold Sb.get at h
  rw [Option.map_eq_some_iff] at h
  obtain ⟨x, hx, rfl⟩ := h
  have := List.find?_some hx
  have e : x.1 = v := by simpa using this
  rw [← e]
  exact List.mem_of_find?_eq_some hx
mutual
def mt : Trm → Trm → Sb → Bool × Sb
  | .var v, t, s => match s.get v with
    | some u => (decide (u = t), s)
    | none => (true, s ++ [(v, t)])
  | .app f ps, .app g ts, s => if f = g ∧ ps.length = ts.length then mts ps ts s else (false, s)
  | .app _ _, .var _, s => (false, s)
def mts : List Trm → List Trm → Sb → Bool × Sb
  | p :: ps, t :: ts, s => if (mt p t s).1 = true then mts ps ts (mt p t s).2 else (false, (mt p t s).2)
  | _, _, s => (true, s)
end
mutual
theorem mt_sub : ∀ (p t : Trm) (s : Sb), ∀ vt ∈ (mt p t s).2, vt ∈ s ∨ (vt.2.depth ≤ t.depth ∧ vt.2.size ≤ t.size)
  | .var v, t, s => by
    rw [mt]
    split
    · exact fun vt h => .inl h
    · intro vt h
      rcases List.mem_append.mp h with h | h
      · exact .inl h
      · rw [List.mem_singleton] at h; rw [h]; exact .inr ⟨Nat.le_refl _, Nat.le_refl _⟩
  | .app f ps, .app g ts, s => by
    rw [mt]
    split
    · intro vt h
      rcases mts_sub ps ts s vt h with h | ⟨u, hu, h1, h2⟩
      · exact .inl h
      · have := Trm.depths_le hu
        have := size_mem hu
        refine .inr ⟨?_, ?_⟩
        · rw [Trm.depth]; omega
        · rw [Trm.size]; omega
    · exact fun vt h => .inl h
  | .app _ _, .var _, s => by rw [mt]; exact fun vt h => .inl h
theorem mts_sub : ∀ (ps ts : List Trm) (s : Sb), ∀ vt ∈ (mts ps ts s).2, vt ∈ s ∨ ∃ u ∈ ts, vt.2.depth ≤ u.depth ∧ vt.2.size ≤ u.size
  | [], ts, s => by rw [mts] <;> simp; exact fun a b h => .inl h
  | p :: ps, [], s => by rw [mts] <;> simp
  | p :: ps, t :: ts, s => by
    intro vt h
    have a := mt_sub p t s vt
    rw [mts] at h
    split at h
    · rcases mts_sub ps ts _ vt h with h | ⟨u, hu, h1⟩
      · rcases a h with h | h
        · exact .inl h
        · exact .inr ⟨t, List.mem_cons_self, h⟩
      · exact .inr ⟨u, List.mem_cons_of_mem _ hu, h1⟩
    · rcases a h with h | h
      · exact .inl h
      · exact .inr ⟨t, List.mem_cons_self, h⟩
end
theorem rangeD_succ (lo : Int) (n : Nat) : rangeD lo (n + 1) = .int lo :: rangeD (lo + 1) n := by
  unfold rangeD
  rw [List.range_succ_eq_map, List.map_cons, List.map_map]
  congr 1
  · simp
  · exact List.map_congr_left fun i _ => by simp; omega
inductive Sy where
  | v (n : Int) | f (x : Str)
  deriving DecidableEq
def Sy.d : Sy → D
  | .v n => .int n
  | .f x => .str x
mutual
def Trm.syms : Trm → List Sy
  | .var n => [.v n]
  | .app f ts => .f f :: Trm.symss ts
def Trm.symss : List Trm → List Sy
  | [] => []
  | t :: ts => t.syms ++ Trm.symss ts
end
def Sy.int? : Sy → Option Int
  | .v n => some n
  | .f _ => none
/-- keep the first of each -/
def nub (acc : List Int) : List Int → List Int
  | [] => acc
  | n :: ns => nub (if n ∈ acc then acc else acc ++ [n]) ns
def Trm.vars (t : Trm) : List Int := nub [] (t.syms.filterMap Sy.int?)
mutual
theorem syms_len : ∀ t : Trm, t.syms.length = t.size
  | .var _ => rfl
  | .app f ts => by rw [Trm.syms, List.length_cons, symss_len ts, Trm.size]; omega
theorem symss_len : ∀ ts : List Trm, (Trm.symss ts).length = Trm.sizes ts
  | [] => rfl
  | t :: ts => by rw [Trm.symss, List.length_append, syms_len t, symss_len ts, Trm.sizes]
end
theorem nub_len : ∀ (ns acc : List Int), (nub acc ns).length ≤ acc.length + ns.length
  | [], acc => by rw [nub]; simp
  | n :: ns, acc => by
    rw [nub, List.length_cons]
    split
    · have := nub_len ns acc; omega
    · have := nub_len ns (acc ++ [n]); rw [List.length_append, List.length_singleton] at this; omega
theorem within_ints (n : Int) (ns : List Int) : D.within (.int n) (ns.map .int) = decide (n ∈ ns) := by
  unfold D.within
  rw [List.any_map, Bool.eq_iff_iff, List.any_eq_true, decide_eq_true_eq]
  constructor
  · rintro ⟨x, hx, e⟩
    have e2 : x = n := by simpa using e
    exact e2 ▸ hx
  · exact fun h => ⟨n, h, by simp⟩
theorem nears_ints (n : Int) (ns : List Int) : D.nears (.int n) (ns.map .int) := by
  refine ⟨rfl, plains_of fun d hd => ?_, ?_⟩
  · obtain ⟨k, _, rfl⟩ := List.mem_map.mp hd; rfl
  · have : PyData.depthAll (D.pys (ns.map .int)) ≤ 0 := depthAll_le fun d hd => by
      obtain ⟨k, _, rfl⟩ := List.mem_map.mp hd
      simp [D.py, PyData.depth]
    omega
theorem go_ninIp {n : Int} {ns : List Int} {q : Addr} {W : Wd} {Q : DQ} (hw : W q = some (.lst (ns.map .int))) (h : Q (.bl (!decide (n ∈ ns))) W) : dIn true (.int n) (.ptr q) W Q := .inl ⟨_, lstRd_ptr hw, nears_ints n ns, by rw [within_ints]; exact h⟩
def numb (s : Sb) : List Int → Sb
  | [] => s
  | v :: vs => numb (if (s.get v).isSome = true then s else s ++ [(v, .var s.length)]) vs
end DL

namespace DL
open PySem PySem.Spec PyProof.Rows L2
def occ (t : Trm) : List Int := t.syms.filterMap Sy.int?
def Trm.ren (σ : Int → Int) (t : Trm) : Trm := t.sub fun v => .var (σ v)
theorem sub_ren (σ : Int → Int) (s : Int → Trm) (t : Trm) : (t.ren σ).sub s = t.sub fun v => s (σ v) := by
  induction t using Trm.ind with
  | hv n => rfl
  | ha f ts ih =>
    have e : (Trm.app f ts).ren σ = .app f (ts.map (Trm.ren σ)) := sub_app _ _ _
    rw [e, sub_app, sub_app, List.map_map]
    congr 1
    exact List.map_congr_left fun t ht => ih t ht
theorem occ_mem {t : Trm} {v : Int} : ∀ {ts : List Trm}, t ∈ ts → v ∈ occ t → v ∈ (Trm.symss ts).filterMap Sy.int?
  | [], h, _ => by cases h
  | u :: us, h, hv => by
    rw [Trm.symss, List.filterMap_append]
    rcases List.mem_cons.mp h with e | h
    · rw [← e]; exact List.mem_append_left _ hv
    · exact List.mem_append_right _ (occ_mem h hv)
theorem sub_congr {s s' : Int → Trm} (t : Trm) (h : ∀ v ∈ occ t, s v = s' v) : t.sub s = t.sub s' := by
  induction t using Trm.ind with
  | hv n => exact h n (by simp [occ, Trm.syms, Sy.int?])
  | ha f ts ih =>
    rw [sub_app, sub_app]
    congr 1
    refine List.map_congr_left fun t ht => ih t ht fun v hv => h v ?_
    unfold occ
    rw [Trm.syms, List.filterMap_cons]
    simp only [Sy.int?]
    exact occ_mem ht hv
theorem nub_sub {x : Int} : ∀ (ns acc : List Int), x ∈ nub acc ns → x ∈ acc ∨ x ∈ ns
  | [], acc, h => .inl h
  | n :: ns, acc, h => by
    rw [nub] at h
    rcases nub_sub ns _ h with h | h
    · split at h
      · exact .inl h
      · rcases List.mem_append.mp h with h | h
        · exact .inl h
        · rw [List.mem_singleton] at h; exact .inr (h ▸ List.mem_cons_self)
    · exact .inr (List.mem_cons_of_mem _ h)
theorem nub_memL {x : Int} : ∀ (ns acc : List Int), x ∈ acc → x ∈ nub acc ns
  | [], acc, h => h
  | n :: ns, acc, h => by
    rw [nub]
    apply nub_memL
    split
    · exact h
    · exact List.mem_append_left _ h
theorem nub_memR {x : Int} : ∀ (ns acc : List Int), x ∈ ns → x ∈ nub acc ns
  | n :: ns, acc, h => by
    rw [nub]
    rcases List.mem_cons.mp h with e | h
    · apply nub_memL
      split
      · rw [e]; assumption
      · rw [e]; simp
    · exact nub_memR ns _ h
theorem mem_vars {t : Trm} {v : Int} : v ∈ t.vars ↔ v ∈ occ t := ⟨fun h => (nub_sub _ _ h).elim (fun h => by cases h) id, fun h => nub_memR _ _ h⟩
theorem get_snoc {s : Sb} {v u : Int} {t : Trm} : Sb.get (s ++ [(v, t)]) u = if (s.get u).isSome = true then s.get u else if v = u then some t else none := by
  unfold Sb.get
  rw [List.find?_append]
  cases h : List.find? (fun vt => decide (vt.1 = u)) s with
  | some x => simp
  | none =>
    by_cases e : v = u
    · simp [e]
    · simp [e]
/-- the numbers given are told apart -/
def Num (s : Sb) : Prop := ∀ v t, s.get v = some t → ∃ i : Nat, t = .var i ∧ i < s.length ∧ ∀ w, s.get w = some (.var i) → w = v
theorem Num.snoc {s : Sb} {n : Int} (h : Num s) (g : s.get n = none) : Num (s ++ [(n, .var s.length)]) := by
  intro v t e
  rw [get_snoc] at e
  split at e
  · obtain ⟨i, rfl, hi, hu⟩ := h v t e
    refine ⟨i, rfl, by simp; omega, fun w ew => ?_⟩
    rw [get_snoc] at ew
    split at ew
    · exact hu w ew
    · split at ew
      · cases ew; omega
      · cases ew
  · split at e
    · rename_i hv
      cases e
      refine ⟨s.length, rfl, by simp, fun w ew => ?_⟩
      rw [get_snoc] at ew
      split at ew
      · obtain ⟨j, e1, e2, _⟩ := h w _ ew
        cases e1
        omega
      · split at ew
        · rename_i hw; rw [← hw, hv]
        · cases ew
    · cases e
end DL

namespace DL
open PySem PySem.Spec PyProof.Rows L2
def keyP : Key → PyData
  | .inl i => .int i
  | .inr x => .str x
section
variable {X : Cx} {pins : List (Addr × Obj)} {σ : L2.St} {H : Hp} {s : Shared}
theorem key_reads {h : Heap} {k : Key} {u : Value} (e : keyIs k u = true) : Reads h u (keyP k) [] := by
  rcases keyIs_shape e with ⟨i, t, rfl, rfl⟩ | ⟨x, t, rfl, rfl⟩
  · exact .int i t
  · exact .str x t
end
theorem hu152 {A : Around} {k : Nat} (hr : Room k A) : A.units + 152 < cLine := by have := hr.un; omega
end DL

namespace DL
open PySem PySem.Spec PyProof.Rows L2
def Shp (p : PyData) : Prop := p.leavesShort 13 = true ∧ p.showable = true
def Shps (ps : List PyData) : Prop := ∀ p ∈ ps, Shp p
theorem shps_all : ∀ {ps : List PyData}, Shps ps → PyData.leavesShortAll 13 ps = true ∧ PyData.showableAll ps = true
  | [], _ => ⟨by rw [PyData.leavesShortAll], by rw [PyData.showableAll]⟩
  | p :: ps, h => by
    have a := h p List.mem_cons_self
    have b := shps_all fun x hx => h x (List.mem_cons_of_mem _ hx)
    exact ⟨by rw [PyData.leavesShortAll, a.1, b.1]; rfl, by rw [PyData.showableAll, a.2, b.2]; rfl⟩
theorem log_lt {n k : Nat} (h : n < 2 ^ k) : n.log2 ≤ k := by
  by_cases e : n = 0
  · rw [e]; simp
  · exact Nat.le_of_lt ((Nat.log2_lt e).mpr h)
theorem shp_int {i : Int} (h : i.natAbs < 10 ^ 12) : Shp (.int i) := by
  refine ⟨by rw [PyData.leavesShort, decide_eq_true_eq]; exact PyData.shown_int_le h, ?_⟩
  rw [PyData.showable, decide_eq_true_eq]
  have := log_lt (n := i.natAbs) (k := 40) (by omega)
  omega
theorem shp_str {x : Str} (h : ∀ c ∈ x.cps.toList, c < 16 ^ 8) : Shp (.str x) := by
  refine ⟨?_, by rw [PyData.showable]⟩
  rw [PyData.leavesShort, List.all_eq_true]
  exact fun c hc => by rw [decide_eq_true_eq]; exact h c hc
theorem shp_tup {ps : List PyData} (h : Shps ps) : Shp (.tuple ps) := ⟨by rw [PyData.leavesShort]; exact (shps_all h).1, by rw [PyData.showable]; exact (shps_all h).2⟩
theorem wt_int {i : Int} {k : Nat} (h : i.natAbs < 2 ^ k) : PyData.weight (.int i) ≤ k + 1 := by
  rw [PyData.weight]
  split
  · omega
  · have := log_lt h; omega
theorem pys_map : ∀ ds : List D, D.pys ds = ds.map D.py
  | [] => rfl
  | d :: ds => by rw [D.pys, pys_map ds, List.map_cons]
inductive Tn : Trm → Prop
  | var {v : Int} (h0 : 0 ≤ v) (h1 : v < 1000) : Tn (.var v)
  | app {f : Str} {ts : List Trm} (h0 : f.length ≤ 7) (hl : Low f) (h1 : ∀ t ∈ ts, Tn t) : Tn (.app f ts)
theorem Tn.args {f : Str} {ts : List Trm} (h : Tn (.app f ts)) : f.length ≤ 7 ∧ Low f ∧ ∀ t ∈ ts, Tn t := by
  cases h with | app h0 hl h1 => exact ⟨h0, hl, h1⟩
theorem Wf.tn {ops : Sig} {n : Int} (ho : Ops ops) (hn : n ≤ 1000) {t : Trm} (h : Wf ops n t) : Tn t := by
  induction h with
  | var h0 h1 => exact .var h0 (by omega)
  | app h0 _ ih => exact .app (ho.2.2.2 _ h0).2.2 (ho.2.2.2 _ h0).1 ih
theorem shp_low {f : Str} (h : Low f) : Shp (.str f) := shp_str fun c hc => by
  have := h c hc
  have e : (16 : Nat) ^ 8 = 4294967296 := by decide
  omega
theorem Tn.shp {t : Trm} (h : Tn t) : Shp t.d.py ∧ t.d.py.weight + 1 ≤ 12 * t.size := by
  induction h with
  | @var v h0 h1 =>
    rw [Trm.d_var, D.py, Trm.size]
    have := wt_int (i := v) (k := 10) (by omega)
    exact ⟨shp_int (by omega), by omega⟩
  | @app f ts h0 hl _ ih =>
    rw [Trm.d_app, D.py, D.pys]
    have hm : ∀ p ∈ D.pys (ts.map Trm.d), ∃ t ∈ ts, p = t.d.py := fun p hp => by
      rw [pys_map, List.map_map] at hp
      obtain ⟨t, ht, rfl⟩ := List.mem_map.mp hp
      exact ⟨t, ht, rfl⟩
    refine ⟨shp_tup fun p hp => ?_, ?_⟩
    · rcases List.mem_cons.mp hp with e | hp
      · rw [e, D.py]; exact shp_low hl
      · obtain ⟨t, ht, rfl⟩ := hm p hp
        exact (ih t ht).1
    · rw [PyData.weight, PyData.weightAll, D.py, PyData.weight, Trm.size]
      have h0 : f.cps.size ≤ 7 := h0
      have : ∀ us : List Trm, (∀ u ∈ us, u.d.py.weight + 1 ≤ 12 * u.size) → PyData.weightAll (D.pys (us.map Trm.d)) ≤ 12 * Trm.sizes us := by
        intro us
        induction us with
        | nil => intro _; simp [D.pys, PyData.weightAll, Trm.sizes]
        | cons u us ih2 =>
          intro g
          have a := g u List.mem_cons_self
          have b := ih2 fun v hv => g v (List.mem_cons_of_mem _ hv)
          rw [List.map_cons, D.pys, PyData.weightAll, Trm.sizes]
          omega
      have := this ts fun u hu => (ih u hu).2
      omega
end DL

namespace DL
open PySem PySem.Spec PyProof.Rows L2
theorem sub_sub (f g : Int → Trm) (t : Trm) : (t.sub f).sub g = t.sub fun v => (f v).sub g := by
  induction t using Trm.ind with
  | hv n => rfl
  | ha h ts ih =>
    rw [sub_app, sub_app, sub_app, List.map_map]
    congr 1
    exact List.map_congr_left fun t ht => ih t ht
theorem sub_id (t : Trm) : t.sub Trm.var = t := by
  induction t using Trm.ind with
  | hv n => rfl
  | ha h ts ih =>
    rw [sub_app]
    congr 1
    rw [List.map_congr_left (g := id) fun t ht => ih t ht, List.map_id]
theorem occ_wf2 {ops : Sig} {n : Int} {t : Trm} (h : Wf ops n t) : ∀ v ∈ occ t, 0 ≤ v ∧ v < n := by
  induction h with
  | var h0 h1 => intro v hv; simp [occ, Trm.syms, Sy.int?] at hv; rw [hv]; exact ⟨h0, h1⟩
  | @app f ts _ _ ih =>
    intro v hv
    unfold occ at hv
    rw [Trm.syms, List.filterMap_cons] at hv
    simp only [Sy.int?] at hv
    have : ∀ us : List Trm, (∀ u ∈ us, ∀ v ∈ occ u, 0 ≤ v ∧ v < n) → v ∈ (Trm.symss us).filterMap Sy.int? → 0 ≤ v ∧ v < n := by
      intro us
      induction us with
      | nil => intro _ h; cases h
      | cons u us ih2 =>
        intro g h
        rw [Trm.symss, List.filterMap_append] at h
        rcases List.mem_append.mp h with h | h
        · exact g u List.mem_cons_self v h
        · exact ih2 (fun w hw => g w (List.mem_cons_of_mem _ hw)) h
    exact this ts ih hv
end DL

namespace DL
open PySem PySem.Spec PyProof.Rows L2
def slt (x y : Str) : Bool := decide (x.cps.toList < y.cps.toList)
def cmpS : Sy → Sy → Int
  | .v n, .v m => if n < m then -1 else 1
  | .v _, .f _ => -1
  | .f _, .v _ => 1
  | .f x, .f y => if slt x y = true then -1 else 1
def cmpL : List Sy → List Sy → Int
  | a :: as, b :: bs => if a = b then cmpL as bs else cmpS a b
  | _, _ => 0
def cmpT (t u : Trm) : Int := if t.size = u.size then cmpL t.syms u.syms else if t.size < u.size then -1 else 1
theorem cmpS_ne (a b : Sy) : cmpS a b = -1 ∨ cmpS a b = 1 := by
  cases a <;> cases b <;> simp only [cmpS] <;> (try split) <;> simp
theorem slt_anti {x y : Str} (h : x ≠ y) : slt y x = !slt x y := by
  have hn : x.cps.toList ≠ y.cps.toList := fun e => h (str_ext e)
  unfold slt
  by_cases a : x.cps.toList < y.cps.toList
  · have : ¬ y.cps.toList < x.cps.toList := List.lt_asymm a
    simp [a, this]
  · have : y.cps.toList < x.cps.toList := by
      refine Decidable.byContradiction fun b => hn ?_
      exact List.le_antisymm (List.not_lt.mp b) (List.not_lt.mp a)
    simp [a, this]
theorem cmpS_anti {a b : Sy} (h : a ≠ b) : cmpS b a = - cmpS a b := by
  cases a with
  | v n => cases b with
    | v m =>
      have : n ≠ m := fun e => h (by rw [e])
      simp only [cmpS]
      by_cases g : n < m
      · rw [if_pos g, if_neg (by omega)]; rfl
      · rw [if_neg g, if_pos (by omega)]
    | f x => simp [cmpS]
  | f x => cases b with
    | v m => simp [cmpS]
    | f y =>
      have : x ≠ y := fun e => h (by rw [e])
      simp only [cmpS, slt_anti this]
      cases slt x y <;> simp
theorem cmpL_anti : ∀ as bs : List Sy, cmpL bs as = - cmpL as bs
  | [], [] => rfl
  | [], _ :: _ => rfl
  | _ :: _, [] => rfl
  | a :: as, b :: bs => by
    rw [cmpL, cmpL]
    by_cases h : a = b
    · rw [if_pos h, if_pos h.symm]; exact cmpL_anti as bs
    · rw [if_neg h, if_neg (Ne.symm h)]; exact cmpS_anti h
theorem cmpT_anti (t u : Trm) : cmpT u t = - cmpT t u := by
  unfold cmpT
  by_cases h : t.size = u.size
  · rw [if_pos h, if_pos h.symm]; exact cmpL_anti _ _
  · rw [if_neg h, if_neg (Ne.symm h)]
    by_cases g : t.size < u.size
    · rw [if_pos g, if_neg (by omega)]; rfl
    · rw [if_neg g, if_pos (by omega)]
theorem cmpL_zero : ∀ {as bs : List Sy}, as.length = bs.length → (cmpL as bs = 0 ↔ as = bs)
  | [], [], _ => by simp [cmpL]
  | [], _ :: _, h => by cases h
  | _ :: _, [], h => by cases h
  | a :: as, b :: bs, h => by
    rw [cmpL]
    by_cases g : a = b
    · rw [if_pos g, cmpL_zero (by simpa using h)]; simp [g]
    · rw [if_neg g]
      rcases cmpS_ne a b with e | e <;> rw [e] <;> simp [g]
inductive Fit (ar : Str → Nat) : Trm → Prop
  | var {v : Int} : Fit ar (.var v)
  | app {f : Str} {ts : List Trm} (h0 : ts.length = ar f) (h1 : ∀ t ∈ ts, Fit ar t) : Fit ar (.app f ts)
theorem syms_inj {ar : Str → Nat} (t : Trm) : ∀ (u : Trm) (r s : List Sy), Fit ar t → Fit ar u → t.syms ++ r = u.syms ++ s → t = u ∧ r = s := by
  induction t using Trm.ind with
  | hv n =>
    intro u r s _ hu e
    cases u with
    | var m => simp [Trm.syms] at e; exact ⟨by rw [e.1], e.2⟩
    | app g us => simp [Trm.syms] at e
  | ha f ts ih =>
    intro u r s ht hu e
    cases u with
    | var m => simp [Trm.syms] at e
    | app g us =>
      rw [Trm.syms, Trm.syms, List.cons_append, List.cons_append] at e
      injection e with e1 e2
      injection e1 with e1
      subst e1
      cases ht with
      | app h0 h1 => cases hu with
        | app g0 g1 =>
          have go : ∀ (ts us : List Trm) (r s : List Sy), ts.length = us.length → (∀ t ∈ ts, ∀ (u : Trm) (r s : List Sy), Fit ar t → Fit ar u → t.syms ++ r = u.syms ++ s → t = u ∧ r = s) → (∀ t ∈ ts, Fit ar t) → (∀ u ∈ us, Fit ar u) → Trm.symss ts ++ r = Trm.symss us ++ s → ts = us ∧ r = s := by
            intro ts
            induction ts with
            | nil => intro us r s hl _ _ _ e; cases us with
              | nil => exact ⟨rfl, by simpa [Trm.symss] using e⟩
              | cons _ _ => cases hl
            | cons t ts ih2 =>
              intro us r s hl hi ht hu e
              cases us with
              | nil => cases hl
              | cons u us =>
                rw [Trm.symss, Trm.symss, List.append_assoc, List.append_assoc] at e
                obtain ⟨e3, e4⟩ := hi t List.mem_cons_self u _ _ (ht t List.mem_cons_self) (hu u List.mem_cons_self) e
                obtain ⟨e5, e6⟩ := ih2 us r s (by simpa using hl) (fun x hx => hi x (List.mem_cons_of_mem _ hx)) (fun x hx => ht x (List.mem_cons_of_mem _ hx)) (fun x hx => hu x (List.mem_cons_of_mem _ hx)) e4
                exact ⟨by rw [e3, e5], e6⟩
          obtain ⟨e3, e4⟩ := go ts us r s (by rw [h0, g0]) ih h1 g1 e2
          exact ⟨by rw [e3], e4⟩
theorem cmpT_zero {ar : Str → Nat} {t u : Trm} (ht : Fit ar t) (hu : Fit ar u) : cmpT t u = 0 ↔ t = u := by
  unfold cmpT
  by_cases h : t.size = u.size
  · rw [if_pos h, cmpL_zero (by rw [syms_len, syms_len, h])]
    exact ⟨fun e => (syms_inj t u [] [] ht hu (by rw [e])).1, fun e => by rw [e]⟩
  · rw [if_neg h]
    have : t ≠ u := fun e => h (by rw [e])
    split <;> simp [this]
/-- the arity of a name -/
def arO (ops : Sig) (f : Str) : Nat := ((ops.find? fun x => decide (x.1 = f)).map (·.2)).getD 0
theorem arO_of {ops : Sig} (hn : (ops.map Prod.fst).Nodup) {x : Str × Nat} (hx : x ∈ ops) : arO ops x.1 = x.2 := by
  induction ops with
  | nil => cases hx
  | cons y ys ih =>
    rw [List.map_cons, List.nodup_cons] at hn
    unfold arO at ih ⊢
    rw [List.find?_cons]
    rcases List.mem_cons.mp hx with e | hx
    · subst e; simp
    · have ne : y.1 ≠ x.1 := fun e => hn.1 (e ▸ List.mem_map_of_mem hx)
      simp only [ne, decide_false]
      exact ih hn.2 hx
theorem Wf.fit {ops : Sig} {n : Int} (ho : Ops ops) {t : Trm} (h : Wf ops n t) : Fit (arO ops) t := by
  induction h with
  | var => exact .var
  | app h0 _ ih => exact .app (by have := arO_of ho.2.2.1 h0; simpa using this.symm) ih
end DL

namespace DL
open PySem PySem.Spec PyProof.Rows L2
def objOf (W : Wd) : D → Option (Str × List (Str × D))
  | .fobj n fs => some (n, fs)
  | .ptr l => match W l with
    | some (.obj n fs) => some (n, fs)
    | _ => none
  | _ => none
@[simp] theorem objOf_f (W : Wd) (n : Str) (fs : List (Str × D)) : objOf W (.fobj n fs) = some (n, fs) := rfl
theorem objOf_ptr {W : Wd} {l : Addr} {n : Str} {fs : List (Str × D)} (h : W l = some (.obj n fs)) : objOf W (.ptr l) = some (n, fs) := by simp [objOf, h]
theorem IsFs.look {K : PySem.W.Frag} {G : Hp} : ∀ {fs : List (Str × D)} {vs : List (Str × V)} (f : Str), IsFs K G fs vs → (∃ d v, fs.lookup f = some d ∧ vs.lookup f = some v ∧ IsD K G d v) ∨ (fs.lookup f = none ∧ vs.lookup f = none)
  | [], _, f, h => by cases h; exact .inr ⟨rfl, rfl⟩
  | (k, d) :: r, _, f, h => by
    obtain ⟨v, r', rfl, h1, h2⟩ := h
    by_cases e : f = k
    · subst e; exact .inl ⟨d, v, by simp, by simp, h1⟩
    · have e' : (f == k) = false := by simpa using e
      rcases IsFs.look f h2 with ⟨d', v', e1, e2, q⟩ | ⟨e1, e2⟩
      · exact .inl ⟨d', v', by rw [List.lookup_cons, e']; exact e1, by rw [List.lookup_cons, e']; exact e2, q⟩
      · exact .inr ⟨by rw [List.lookup_cons, e']; exact e1, by rw [List.lookup_cons, e']; exact e2⟩
def putD (f : Str) (d : D) : List (Str × D) → List (Str × D)
  | [] => [(f, d)]
  | (k, e) :: r => if k = f then (k, d) :: r else (k, e) :: putD f d r
section
variable {K : PySem.W.Frag} {G H : Hp} {W : Wd}
theorem objOf_at (R : Rel K G H W) {d : D} {v : V} {n : Str} {fs : List (Str × D)} (h : IsD K G d v) (e : objOf W d = some (n, fs)) : ∃ a dx vs, v = .ref a ∧ H a = some (.ins (He.ga K n) dx vs) ∧ IsFs K G fs vs := by
  unfold objOf at e
  split at e
  · cases e
    obtain ⟨a, dx, vs, e1, e2, e3⟩ := h
    exact ⟨a, dx, vs, e1, (R.st _ _ e2).eq rfl, e3⟩
  · rename_i l
    split at e
    · rename_i hw
      cases e
      obtain ⟨_, o, e1, dx, vs, rfl, e3⟩ := R.own _ _ hw
      exact ⟨l, dx, vs, h, e1, e3⟩
    · cases e
  · cases e
theorem IsFs.length : ∀ {fs : List (Str × D)} {vs : List (Str × V)}, IsFs K G fs vs → fs.length = vs.length
  | [], _, h => by cases h; rfl
  | (k, d) :: ds, _, h => by
    obtain ⟨v, r, e, _, h2⟩ := h
    rw [e, List.length_cons, List.length_cons, h2.length]
theorem IsFs.put {d : D} {v : V} (f : Str) (hd : IsD K G d v) : ∀ {fs : List (Str × D)} {vs : List (Str × V)}, IsFs K G fs vs → IsFs K G (putD f d fs) (putF f v vs)
  | [], _, h => by cases h; exact ⟨v, [], rfl, hd, rfl⟩
  | (k, e) :: r, _, h => by
    obtain ⟨u, r', rfl, h1, h2⟩ := h
    unfold putD putF
    by_cases q : k = f
    · rw [if_pos q, if_pos q]; exact ⟨v, r', rfl, hd, h2⟩
    · rw [if_neg q, if_neg q]; exact ⟨u, _, rfl, h1, h2.put f hd⟩
/-- something new that nobody tracks here -/
theorem Rel.extra (R : Rel K G H W) {p : Addr} {o : HO} (h : H p = none) : Rel K G (upd H p o) W := ⟨fun b u e => rd_upd (R.st b u e) h, fun l m e => by
  obtain ⟨g, u, e1, q⟩ := R.own l m e
  exact ⟨g, u, by rw [upd_ne (ne_of_none e1 h)]; exact e1, q⟩⟩
theorem Rel.obj (R : Rel K G H W) {x dx : Addr} {n : Str} (hx : H x = none) (hd : H dx = none) (ne : dx ≠ x) : Rel K G (upd (upd H dx (.own x)) x (.ins (He.ga K n) dx [])) (W.set x (.obj n [])) :=
  (R.extra hd).newOwn (m := .obj n []) (by rw [upd_ne (Ne.symm ne)]; exact hx) ⟨dx, [], rfl, rfl⟩
end
section
variable {X : Cx} {G0 : Hp} {o e : Expr} {es : List Expr} {to te : TE} {ao ae : AE} {t tk : L2.TA} {at' ak : AA} {pos apos p : PySem.Pos} {f m x : Str}
def aFld (n f : Str) (o : AE) : AE := fun δ W Q => o δ W fun x W1 => ∃ fs d, objOf W1 x = some (n, fs) ∧ fs.lookup f = some d ∧ Q d W1
theorem de_fld (n : Str) (c : Cls X.K (He.ga X.K n)) (na : NoAttr X.K (He.ga X.K n) f) (ho : DE X G0 o to ao) (hb : attributeBase o f X.env (eval o X.env) = eval o X.env := by rfl) : DE X G0 (.Attribute o f pos) (tFld X.K to f) (aFld n f ao) :=
  ⟨pe_fld ho.pe hb, fun σ H Q G δ W QD s0 R S h k => by
    refine ho.sim σ H _ G δ W _ s0 R S h fun x dx G1 H1 W1 s1 R1 d1 h1 => ?_
    obtain ⟨fs, d, e1, e2, q⟩ := h1
    obtain ⟨a, ax, vs, rfl, ha, hf⟩ := objOf_at R1 d1 e1
    rcases hf.look f with ⟨d', v', e3, e4, q3⟩ | ⟨e3, _⟩
    · rw [e2] at e3
      cases e3
      exact ⟨a, _, ax, vs, v', rfl, ha, c, na, e4, (k.up s1).here R1 q3 q⟩
    · rw [e2] at e3; cases e3⟩
def aFldS (n f : Str) (o a : AE) : AS := fun A δ W => a δ W fun y W1 => o δ W1 fun x W2 => ∃ l fs, x = .ptr l ∧ W2 l = some (.obj n fs) ∧ fs.length < 1000 ∧ A.nx δ (W2.set l (.obj n (putD f y fs)))
theorem ds_fld (n : Str) (c : Cls X.K (He.ga X.K n)) (na : NoAttr X.K (He.ga X.K n) f) (ho : DE X G0 o to ao) (he : DE X G0 e te ae) (hs : swapsWith e (some (.Attribute o f apos)) pos.line X.env = pure false := by rfl) : DS X G0 (.Assign [.Attribute o f apos] e pos) (sFld X.K to te f) (aFldS n f ao ae) :=
  ⟨ps_fld ho.pe he.pe hs, fun E A σ H G δ W s0 R S eo h => by
    refine he.sim σ H _ G δ W _ s0 R S h fun y dy G1 H1 W1 s1 R1 d1 h1 => ?_
    refine ho.sim σ H1 _ G1 δ W1 _ (s0.trans s1) R1 (S.up s1) h1 fun x dx G2 H2 W2 s2 R2 d2 h2 => ?_
    obtain ⟨l, fs, rfl, hw, hl, q⟩ := h2
    cases (show x = .ref l from d2)
    obtain ⟨_, u, e1, ax, vs, rfl, e3⟩ := R2.own _ _ hw
    exact ⟨l, _, ax, vs, rfl, e1, c, na, by rw [← e3.length]; exact hl, eo.nx _ _ _ _ _ (s1.trans s2) (R2.put (m := .obj n (putD f dy fs)) hw ⟨ax, _, rfl, e3.put f (IsD.up s2 _ _ d1)⟩) (S.up (s1.trans s2)) q⟩⟩
def LiftS (K : PySem.W.Frag) (G0 : Hp) (E : L2.St → XK) (ED : Sl → DX) : Prop := ∀ σ δ G, Same G0 G → IsSl K G δ σ → LiftX K G (E σ) (ED δ)
theorem LiftS.none {K : PySem.W.Frag} {E : L2.St → XK} : LiftS K G0 E fun _ => ED0 := fun _ _ _ _ _ => liftX0
theorem LiftS.up {K : PySem.W.Frag} {G1 : Hp} {E : L2.St → XK} {ED : Sl → DX} (s : Same G0 G1) (h : LiftS K G0 E ED) : LiftS K G1 E ED := fun σ δ G s' => h σ δ G (s.trans s')
def aCallX (sp : SpD) (dds : List D) (ED : Sl → DX) (t : AA) : AE := fun δ W Q => t δ W fun ds W1 => sp (ds ++ dds) W1 Q (ED δ)
theorem sim_callX {K : PySem.W.Frag} {sp : SpD} {dvs : List V} {dds : List D} {E : L2.St → XK} {ED : Sl → DX} (hl : LiftS K G0 E ED) (hd : ∀ G, IsDs K G dds dvs) (ht : SimA K G0 t at') : SimE K G0 (tCallD (liftSp K sp) dvs E t) (aCallX sp dds ED at') := fun σ H Q G δ W QD s0 R S h k => by
  refine ht σ H _ G δ W _ s0 R S h fun vs ds G1 H1 W1 s1 R1 d1 h1 => ?_
  exact ⟨G1, W1, ds ++ dds, QD, ED δ, R1, d1.append (hd G1), h1, k.up s1, hl σ δ G1 (s0.trans s1) (S.up s1)⟩
def aMeth (n m : Str) (sp : SpD) (dds : List D) (ED : Sl → DX) (o : AE) (t : AA) : AE := fun δ W Q => o δ W fun x W1 => (∃ fs, objOf W1 x = some (n, fs) ∧ fs.lookup m = none) ∧ t δ W1 fun ds W2 => sp (x :: (ds ++ dds)) W2 Q (ED δ)
theorem sim_meth {K : PySem.W.Frag} {n : Str} {sp : SpD} {dvs : List V} {dds : List D} {E : L2.St → XK} {ED : Sl → DX} (hl : LiftS K G0 E ED) (hd : ∀ G, IsDs K G dds dvs) (ho : SimE K G0 to ao) (ht : SimA K G0 t at') :
    SimE K G0 (tMethD (He.ga K n) m (liftSp K sp) dvs E to t) (aMeth n m sp dds ED ao at') := fun σ H Q G δ W QD s0 R S h k => by
  refine ho σ H _ G δ W _ s0 R S h fun x dx G1 H1 W1 s1 R1 d1 h1 => ?_
  obtain ⟨⟨fs, e1, e2⟩, q⟩ := h1
  obtain ⟨a, ax, vs, rfl, ha, hf⟩ := objOf_at R1 d1 e1
  rcases hf.look m with ⟨d', v', e3, e4, q3⟩ | ⟨_, e3⟩
  · rw [e2] at e3; cases e3
  refine ⟨a, ax, vs, rfl, ha, e3, ?_⟩
  refine ht σ H1 _ G1 δ W1 _ (s0.trans s1) R1 (S.up s1) q fun xs ds G2 H2 W2 s2 R2 d2 h2 => ?_
  exact ⟨G2, W2, dx :: (ds ++ dds), QD, ED δ, R2, ⟨_, _, rfl, IsD.up s2 _ _ d1, d2.append (hd G2)⟩, h2, k.up (s1.trans s2), hl σ δ G2 (s0.trans (s1.trans s2)) (S.up (s1.trans s2))⟩
structure DK (X : Cx) (G0 : Hp) (kws : List Keyword) (t : L2.TA) (a : AA) : Prop where
  pk : PK X kws t
  sim : SimA X.K G0 t a
theorem dk_nil : DK X G0 [] tNil aNil := ⟨pk_nil, sim_nil⟩
theorem dk_cons {nm : Option Str} {kpos : PySem.Pos} {kws : List Keyword} (ha : DE X G0 e te ae) (hr : DK X G0 kws t at') : DK X G0 (⟨nm, e, kpos⟩ :: kws) (tCons te t) (aCons ae at') := ⟨pk_cons ha.pe hr.pk, sim_cons ha.sim hr.sim⟩
/-- where a parameter's value comes from: a written argument, a default, a keyword -/
inductive Src where
  | p (i : Nat) | m (i : Nat) | k (i : Nat)
def pick {α : Type} (us ms ws : List α) : List Src → List α
  | [] => []
  | .p i :: r => (us[i]?).toList ++ pick us ms ws r
  | .m i :: r => (ms[i]?).toList ++ pick us ms ws r
  | .k i :: r => (ws[i]?).toList ++ pick us ms ws r
theorem vals_at {vs : List V} {us : List Value} (r : Vals vs us) (i : Nat) : Vals (vs[i]?).toList (us[i]?).toList := by
  by_cases h : i < vs.length
  · obtain ⟨u, hu, rv⟩ := r.get (List.getElem?_eq_getElem h)
    rw [List.getElem?_eq_getElem h, hu]
    exact .cons rv .nil
  · rw [List.getElem?_eq_none (by omega), List.getElem?_eq_none (by rw [← r.length]; omega)]
    exact .nil
theorem vals_pick {vs ms zs : List V} {us mv ws : List Value} (r1 : Vals vs us) (r2 : Vals ms mv) (r3 : Vals zs ws) : ∀ src : List Src, Vals (pick vs ms zs src) (pick us mv ws src)
  | [] => .nil
  | .p i :: r => (vals_at r1 i).append (vals_pick r1 r2 r3 r)
  | .m i :: r => (vals_at r2 i).append (vals_pick r1 r2 r3 r)
  | .k i :: r => (vals_at r3 i).append (vals_pick r1 r2 r3 r)
theorem isDs_at {K : PySem.W.Frag} {G : Hp} {ds : List D} {vs : List V} (r : IsDs K G ds vs) (i : Nat) : IsDs K G (ds[i]?).toList (vs[i]?).toList := by
  by_cases h : i < ds.length
  · obtain ⟨u, hu, rv⟩ := r.get (List.getElem?_eq_getElem h)
    rw [List.getElem?_eq_getElem h, hu]
    exact ⟨u, [], rfl, rv, rfl⟩
  · rw [List.getElem?_eq_none (by omega), List.getElem?_eq_none (by rw [← r.length]; omega)]
    rfl
theorem isDs_pick {K : PySem.W.Frag} {G : Hp} {ds ms zs : List D} {us mv ws : List V} (r1 : IsDs K G ds us) (r2 : IsDs K G ms mv) (r3 : IsDs K G zs ws) : ∀ src : List Src, IsDs K G (pick ds ms zs src) (pick us mv ws src)
  | [] => rfl
  | .p i :: r => (isDs_at r1 i).append (isDs_pick r1 r2 r3 r)
  | .m i :: r => (isDs_at r2 i).append (isDs_pick r1 r2 r3 r)
  | .k i :: r => (isDs_at r3 i).append (isDs_pick r1 r2 r3 r)
/-- a def that keeps a promise, called with n written arguments and the keywords ks; src tells the parameters, ms the defaults that fill up -/
structure FkN (P : Program) (w : World) (K : PySem.W.Frag) (mg : Str → Option Value) (base : Heap) (CX : CXT) (k : Nat) (f : Addr) (ps : List Str) (n : Nat) (ks : List Str) (src : List Src) (ms : List V) (sp : SpD) : Prop where
  ex : ∃ (fd : FuncData) (mv : List Value), FnG P w K mg base CX k f fd ps (liftSp K sp) ∧ KBn K fd ps n ks (fun us ws => pick us mv ws src) (fun vs zs => pick vs ms zs src)
theorem FkN.mono {P : Program} {w : World} {K : PySem.W.Frag} {mg : Str → Option Value} {base : Heap} {CX : CXT} {j k : Nat} {fa : Addr} {ps : List Str} {n : Nat} {ks : List Str} {src : List Src} {ms : List V} {sp : SpD} (g : FkN P w K mg base CX j fa ps n ks src ms sp) (h : j ≤ k) : FkN P w K mg base CX k fa ps n ks src ms sp := by
  obtain ⟨fd, mv, F, b⟩ := g.ex
  exact ⟨fd, mv, F.mono h, b⟩
def aCallN (n l : Nat) (src : List Src) (ms : List D) (sp : SpD) (ED : Sl → DX) (t tk : AA) : AE := fun δ W Q => t δ W fun ds W1 => tk δ W1 fun zs W2 => ds.length = n ∧ zs.length = l ∧ sp (pick ds ms zs src) W2 Q (ED δ)
def aMethN (c m : Str) (n l : Nat) (src : List Src) (ms : List D) (sp : SpD) (ED : Sl → DX) (o : AE) (t tk : AA) : AE := fun δ W Q => o δ W fun x W1 => (∃ fs, objOf W1 x = some (c, fs) ∧ fs.lookup m = none) ∧ t δ W1 fun ds W2 => tk δ W2 fun zs W3 => ds.length = n ∧ zs.length = l ∧ sp (pick (x :: ds) ms zs src) W3 Q (ED δ)
theorem sim_methN {K : PySem.W.Frag} {c : Str} {n l : Nat} {src : List Src} {ms : List D} {mv : List V} {sp : SpD} {E : L2.St → XK} {ED : Sl → DX} (hl : LiftS K G0 E ED) (hm : ∀ G, IsDs K G ms mv) (ho : SimE K G0 to ao) (ht : SimA K G0 t at') (hk : SimA K G0 tk ak) :
    SimE K G0 (tMethNG (He.ga K c) m n l (liftSp K sp) (fun vs zs => pick vs mv zs src) E to t tk) (aMethN c m n l src ms sp ED ao at' ak) := fun σ H Q G δ W QD s0 R S h k => by
  refine ho σ H _ G δ W _ s0 R S h fun x dx G1 H1 W1 s1 R1 d1 h1 => ?_
  obtain ⟨⟨fs, e1, e2⟩, q⟩ := h1
  obtain ⟨a, ax, vs, rfl, ha, hf⟩ := objOf_at R1 d1 e1
  rcases hf.look m with ⟨d', v', e3, e4, q3⟩ | ⟨_, e3⟩
  · rw [e2] at e3; cases e3
  refine ⟨a, ax, vs, rfl, ha, e3, ?_⟩
  refine ht σ H1 _ G1 δ W1 _ (s0.trans s1) R1 (S.up s1) q fun xs ds G2 H2 W2 s2 R2 d2 h2 => ?_
  refine hk σ H2 _ G2 δ W2 _ (s0.trans (s1.trans s2)) R2 (S.up (s1.trans s2)) h2 fun zs es G3 H3 W3 s3 R3 d3 ⟨l1, l2, q⟩ => ?_
  have s13 := s1.trans (s2.trans s3)
  exact ⟨by rw [← d2.length]; exact l1, by rw [← d3.length]; exact l2, G3, W3, _, QD, ED δ, R3, isDs_pick (ds := dx :: ds) ⟨_, _, rfl, IsD.up (s2.trans s3) _ _ d1, IsDs.up s3 _ _ d2⟩ (hm G3) d3 src, q, k.up s13, hl σ δ G3 (s0.trans s13) (S.up s13)⟩
def aMake (n : Str) (sp : SpD) (dds : List D) (ED : Sl → DX) (t : AA) : AE := fun δ W Q => t δ W fun ds W1 => ∀ l, W1 l = none → sp (.ptr l :: (ds ++ dds)) (W1.set l (.obj n [])) (fun v W2 => v = .non ∧ Q (.ptr l) W2) (ED δ)
theorem sim_make {K : PySem.W.Frag} {n : Str} {sp : SpD} {dvs : List V} {dds : List D} {E : L2.St → XK} {ED : Sl → DX} (hl : LiftS K G0 E ED) (hd : ∀ G, IsDs K G dds dvs) (ht : SimA K G0 t at') : SimE K G0 (tMakeD (He.ga K n) (liftSp K sp) dvs E t) (aMake n sp dds ED at') := fun σ H Q G δ W QD s0 R S h k => by
  refine ht σ H _ G δ W _ s0 R S h fun vs ds G1 H1 W1 s1 R1 d1 h1 => ?_
  intro x dx hx hdx ne
  refine ⟨G1, W1.set x (.obj n []), .ptr x :: (ds ++ dds), fun v W2 => v = .non ∧ QD (.ptr x) W2, ED δ, R1.obj hx hdx ne, ⟨_, _, rfl, rfl, d1.append (hd G1)⟩, h1 x (R1.freeW hx), ?_, hl σ δ G1 (s0.trans s1) (S.up s1)⟩
  rintro v d G' H' W' s' R' hv ⟨rfl, q⟩
  exact ⟨hv, k _ (.ptr x) _ _ _ (s1.trans s') R' rfl q⟩
variable {k n : Nat} {ps ks : List Str} {c : Str} {sp : SpD} {src : List Src} {ms : List V} {md : List D} {kws : List Keyword} {fa : Addr} {CX : CXT} {E : L2.St → XK} {ED : Sl → DX}
theorem de_methN {pl : Sem Bool} (hx : ∀ σ, PassesAt CX X σ (E σ)) (hl : LiftS X.K G0 E ED) (hc : Cls X.K (He.ga X.K c)) (hm : Meth X.K (He.ga X.K c) m fa) (g : FkN X.prog X.w X.K X.mg X.base CX k fa ps (n + 1) ks src ms sp) (hmd : ∀ G, IsDs X.K G md ms) (hr : Room k X.A) (hgd : X.A.guards = some [])
    (ho : DE X G0 o to ao) (ha : DA X G0 (e :: es) t at') (hkw : DK X G0 kws tk ak) (hall : (backToKw pos (keywordEach kws X.env)).all (·.1.isSome) = true := by rfl) (hks : (backToKw pos (keywordEach kws X.env)).filterMap (·.1) = ks := by rfl)
    (hst : starEach (e :: es) X.env = (false, eval e X.env) :: starEach es X.env := by rfl)
    (hpl : ((backTo pos (starEach (e :: es) X.env)).any (·.1) || (backToKw pos (keywordEach kws X.env)).any (·.1.isNone)) = false := by rfl)
    (ht : eval (.Call (.Attribute o m apos) (e :: es) kws pos) X.env = (do
      let ov ← eval o X.env
      standAt apos.atName
      let (f, first) ← holding [ov] (getMethod ov m pl)
      callWith pos f first (backTo pos (starEach (e :: es) X.env)) (backToKw pos (keywordEach kws X.env))) := by rfl) :
    DE X G0 (.Call (.Attribute o m apos) (e :: es) kws pos) (tMethNG (He.ga X.K c) m n ks.length (liftSp X.K sp) (fun vs zs => pick vs ms zs src) E to t tk) (aMethN c m n ks.length src md sp ED ao at' ak) := by
  obtain ⟨fd, mv, F, b⟩ := g.ex
  exact ⟨pe_methNG ho.pe hc hm F ⟨hr, hgd⟩ b hx ha.pa hkw.pk hall hks hst hpl ht, sim_methN hl hmd ho.sim ha.sim hkw.sim⟩
/-- a method (or a def) all of whose parameters are given in their order -/
structure FkM (P : Program) (w : World) (K : PySem.W.Frag) (mg : Str → Option Value) (base : Heap) (CX : CXT) (k : Nat) (f : Addr) (ps : List Str) (sp : SpD) : Prop where
  ex : ∃ fd : FuncData, FnG P w K mg base CX k f fd ps (liftSp K sp) ∧ Binds K fd ps []
theorem FkM.mono {P : Program} {w : World} {K : PySem.W.Frag} {mg : Str → Option Value} {base : Heap} {CX : CXT} {j k : Nat} {fa : Addr} {ps : List Str} {sp : SpD} (g : FkM P w K mg base CX j fa ps sp) (h : j ≤ k) : FkM P w K mg base CX k fa ps sp := by
  obtain ⟨fd, F, b⟩ := g.ex
  exact ⟨fd, F.mono h, b⟩
theorem de_meth {pl : Sem Bool} (hx : ∀ σ, PassesAt CX X σ (E σ)) (hl : LiftS X.K G0 E ED) (hc : Cls X.K (He.ga X.K c)) (hm : Meth X.K (He.ga X.K c) m fa) (g : FkM X.prog X.w X.K X.mg X.base CX k fa ps sp) (hr : Room k X.A) (hgd : X.A.guards = some [])
    (ho : DE X G0 o to ao) (ha : DA X G0 (e :: es) t at') (hst : starEach (e :: es) X.env = (false, eval e X.env) :: starEach es X.env := by rfl) (hpl : (backTo pos (starEach es X.env)).any (·.1) = false := by rfl)
    (ht : eval (.Call (.Attribute o m apos) (e :: es) [] pos) X.env = (do
      let ov ← eval o X.env
      standAt apos.atName
      let (f, first) ← holding [ov] (getMethod ov m pl)
      callWith pos f first (backTo pos (starEach (e :: es) X.env)) (backToKw pos (keywordEach [] X.env))) := by rfl) :
    DE X G0 (.Call (.Attribute o m apos) (e :: es) [] pos) (tMethD (He.ga X.K c) m (liftSp X.K sp) [] E to t) (aMeth c m sp [] ED ao at') := by
  obtain ⟨fd, F, b⟩ := g.ex
  exact ⟨pe_methG ho.pe hc hm F ⟨hr, hgd⟩ b .nil hx ha.pa hst hpl ht, sim_meth hl (fun _ => rfl) ho.sim ha.sim⟩
theorem de_meth0 {pl : Sem Bool} (hx : ∀ σ, PassesAt CX X σ (E σ)) (hl : LiftS X.K G0 E ED) (hc : Cls X.K (He.ga X.K c)) (hm : Meth X.K (He.ga X.K c) m fa) (g : FkM X.prog X.w X.K X.mg X.base CX k fa ps sp) (hr : Room k X.A) (hgd : X.A.guards = some [])
    (ho : DE X G0 o to ao)
    (ht : eval (.Call (.Attribute o m apos) [] [] pos) X.env = (do
      let ov ← eval o X.env
      standAt apos.atName
      let (f, first) ← holding [ov] (getMethod ov m pl)
      callWith pos f first (backTo pos (starEach [] X.env)) (backToKw pos (keywordEach [] X.env))) := by rfl) :
    DE X G0 (.Call (.Attribute o m apos) [] [] pos) (tMethD (He.ga X.K c) m (liftSp X.K sp) [] E to tNil) (aMeth c m sp [] ED ao aNil) := by
  obtain ⟨fd, F, b⟩ := g.ex
  exact ⟨pe_methG0 ho.pe hc hm F ⟨hr, hgd⟩ b .nil hx ht, sim_meth hl (fun _ => rfl) ho.sim sim_nil⟩
theorem de_make (hx : ∀ σ, PassesAt CX X σ (E σ)) (hl : LiftS X.K G0 E ED) (M : Mk X.K (He.ga X.K x) fa) (g : FkM X.prog X.w X.K X.mg X.base CX k fa ps sp) (hm : X.mg x = some (.ref (He.ga X.K x))) (hr : Room (k + 1) X.A) (hgd : X.A.guards = some [])
    (ha : DA X G0 (e :: es) t at') (hg : Gl X x := by rfl) (hdb : (x == ("__debug__" : Str)) = false := by decide) (he : starEach (e :: es) X.env = (false, eval e X.env) :: starEach es X.env := by rfl) (hpl : (backTo pos (starEach es X.env)).any (·.1) = false := by rfl) :
    DE X G0 (.Call (.Name x p) (e :: es) [] pos) (tMakeD (He.ga X.K x) (liftSp X.K sp) [] E t) (aMake x sp [] ED at') := by
  obtain ⟨fd, F, b⟩ := g.ex
  exact ⟨pe_makeG M F ⟨hr, hgd⟩ hg hm b .nil hx ha.pa hdb he hpl, sim_make hl (fun _ => rfl) ha.sim⟩
theorem de_make0 (hx : ∀ σ, PassesAt CX X σ (E σ)) (hl : LiftS X.K G0 E ED) (M : Mk X.K (He.ga X.K x) fa) (g : FkM X.prog X.w X.K X.mg X.base CX k fa ps sp) (hm : X.mg x = some (.ref (He.ga X.K x))) (hr : Room (k + 1) X.A) (hgd : X.A.guards = some [])
    (hg : Gl X x := by rfl) (hdb : (x == ("__debug__" : Str)) = false := by decide) :
    DE X G0 (.Call (.Name x p) [] [] pos) (tMakeD (He.ga X.K x) (liftSp X.K sp) [] E tNil) (aMake x sp [] ED aNil) := by
  obtain ⟨fd, F, b⟩ := g.ex
  exact ⟨pe_makeG0 M F ⟨hr, hgd⟩ hg hm b .nil hx hdb, sim_make hl (fun _ => rfl) sim_nil⟩
end
end DL

namespace DL
open PySem PySem.Spec PyProof.Rows L2
abbrev AW := Sl → DX
def AW.none : AW := fun _ _ _ _ => False
theorem liftS_none {K : PySem.W.Frag} {G0 : Hp} {E : L2.St → XK} : LiftS K G0 E AW.none := fun _ _ _ _ _ _ _ _ _ _ _ _ _ _ h => h.elim
section
variable {P : Program} {w : World} {K : PySem.W.Frag} {mg : Str → Option Value} {base : Heap}
/-- a def as the head finds it, which keeps a promise -/
structure FkB (P : Program) (w : World) (K : PySem.W.Frag) (mg : Str → Option Value) (base : Heap) (CX : CXT) (k : Nat) (f : Addr) (nm q : Str) (st : Stmt) (dvs : List V) (kws : List (Str × V)) (ps : List Str) (sp : SpD) : Prop where
  ex : ∃ fd : FuncData, FunD K nm q (defArgs st) (defBody st) (defScope st) dvs kws f fd ∧ FnG P w K mg base CX k f fd ps (liftSp K sp)
structure DfB (K : PySem.W.Frag) (f : Addr) (nm q : Str) (st : Stmt) (dvs : List V) (kws : List (Str × V)) : Prop where
  ex : ∃ fd : FuncData, FunD K nm q (defArgs st) (defBody st) (defScope st) dvs kws f fd
theorem FkB.mono {CX : CXT} {j k : Nat} {f : Addr} {nm q : Str} {st : Stmt} {dvs : List V} {kws : List (Str × V)} {ps : List Str} {sp : SpD} (g : FkB P w K mg base CX j f nm q st dvs kws ps sp) (h : j ≤ k) : FkB P w K mg base CX k f nm q st dvs kws ps sp := by
  obtain ⟨fd, F, G⟩ := g.ex
  exact ⟨fd, F, G.mono h⟩
/-- all parameters written -/
theorem FkB.m {CX : CXT} {k : Nat} {f : Addr} {nm q : Str} {st : Stmt} {ps : List Str} {sp : SpD} {kws : List (Str × V)} (g : FkB P w K mg base CX k f nm q st [] kws ps sp)
    (hb : ∀ (kV doc pm : Value) (an : Option Addr) (cdv ct : Value) (us : List Value), us.length = ps.length → bindArgs (PySem.W.fnOf nm q (defArgs st) (defBody st) (defScope st) .none kV doc pm an cdv ct) ⟨us, []⟩ = pure (ps.zip us)) : FkM P w K mg base CX k f ps sp := by
  obtain ⟨fd, F, G⟩ := g.ex
  exact ⟨fd, G, F.bindsN hb⟩
/-- n written, the keywords ks, the keyword-only defaults ms -/
theorem FkB.n0 {CX : CXT} {k : Nat} {f : Addr} {nm q : Str} {st : Stmt} {ps : List Str} {sp : SpD} {kws : List (Str × V)} (g : FkB P w K mg base CX k f nm q st [] kws ps sp) (n : Nat) (ks : List Str) (ms : List (Str × V)) (src : List Src) (hk : kws ≠ []) (hms : ∀ z ∈ ms, z ∈ kws)
    (h : ∀ (D : Addr) (doc pm : Value) (an : Option Addr) (cdv ct : Value) (us mv ws : List Value), us.length = n → mv.length = ms.length → ws.length = ks.length →
      KwChain D ((ms.map (·.1)).zip mv) (bindArgs (PySem.W.fnOf nm q (defArgs st) (defBody st) (defScope st) .none (.ref D) doc pm an cdv ct) ⟨us, ks.zip ws⟩) (ps.zip (pick us mv ws src))) : FkN P w K mg base CX k f ps n ks src (ms.map (·.2)) sp := by
  obtain ⟨fd, F, G⟩ := g.ex
  obtain ⟨mv, b⟩ := F.kbinds0 n ks ms (fun us mv ws => pick us mv ws src) hk hms (fun a b c => vals_pick a b c src) h
  exact ⟨fd, mv, G, b⟩
/-- what nobody can ask is kept -/
theorem FkB.none {CX : CXT} {f : Addr} {nm q : Str} {st : Stmt} {dvs : List V} {kws : List (Str × V)} {ps : List Str} {sp : SpD} (F : DfB K f nm q st dvs kws) (h : ∀ ds W Q E, ¬ sp ds W Q E) : FkB P w K mg base CX 0 f nm q st dvs kws ps sp := by
  obtain ⟨fd, F⟩ := F.ex
  have no : ∀ vs H Q E, ¬ liftSp K sp vs H Q E := fun vs H Q E ⟨G, W, ds, QD, ED, _, _, q, _⟩ => h _ _ _ _ q
  exact ⟨fd, F, fun vs H Q E q => absurd q (no vs H Q E), fun _ _ _ _ q => absurd q (no _ _ _ _)⟩
/-- a def that lets nothing out -/
theorem okB {f : Addr} {nm q : Str} {st : Stmt} {dvs : List V} {kws : List (Str × V)} {N ps : List Str} {k : Nat} {sp : SpD} (F : DfB K f nm q st dvs kws) (S : FnScope N ps (defScope st)) (len : ∀ ds W Q E, sp ds W Q E → ds.length = ps.length)
    (hbody : ∀ (cdv : Value) (A : Around) (outer : List Env) (s : Shared) (H : Hp) (E : XK) (G : Hp), Room k (A.deeper (envOfC q (defScope st) s.heap.objs.size f cdv)) → A.guards = some [] →
      ∃ t a, DSs (cxOf CX0 P w K mg base N q (defScope st) f cdv A outer s H E).nox G (defBody st) t a ∧ ∀ ds W QD ED, sp ds W QD ED → a { nx := fun _ W' => QD .non W', rt := QD } (startD N ds) W) : FkB P w K mg base CX0 (k + 1) f nm q st dvs kws ps sp := by
  obtain ⟨fd, F⟩ := F.ex
  refine ⟨fd, F, FunD.okG F S (fun vs H Q E h => ?_) (fun cdv A outer s H vs Q E hr h => ?_)⟩
  · obtain ⟨G, W, ds, QD, ED, _, d, h, _⟩ := h
    rw [← d.length]
    exact len _ _ _ _ h
  · obtain ⟨G, W, ds, QD, ED, R, d, h, kt, _⟩ := h
    obtain ⟨t, a, db, hb⟩ := hbody cdv A outer s H E G hr.rm hr.gd
    refine ⟨t, db.ps.nox, db.sim _ { nx := fun _ W' => QD .non W', rt := QD } _ H G _ W (Same.refl G) R (isSl_start d) ⟨?_, kt, ?_, ?_⟩ (hb ds W QD ED h)⟩
    · exact fun σ δ G' H' W' s' R' S' q => kt _ .non G' H' W' s' R' rfl q
    · exact fun _ _ _ _ _ _ _ _ q => q.elim
    · exact fun _ _ _ _ _ _ _ _ q => q.elim
/-- a def that may raise -/
theorem okX {f : Addr} {nm q : Str} {st : Stmt} {dvs : List V} {kws : List (Str × V)} {N ps : List Str} {k : Nat} {sp : SpD} {a : AW → AS} (F : DfB K f nm q st dvs kws) (S : FnScope N ps (defScope st)) (len : ∀ ds W Q E, sp ds W Q E → ds.length = ps.length)
    (hbody : ∀ (cdv : Value) (A : Around) (outer : List Env) (s : Shared) (H : Hp) (E : XK) (G : Hp) (WD : AW), Room k (A.deeper (envOfC q (defScope st) s.heap.objs.size f cdv)) → A.guards = some [] →
      Takes (cxOf (L2.CX P w) P w K mg base N q (defScope st) f cdv A outer s H E) (fun cls d _ H => E cls d H) → PassesOwn (model P w) (cxOf (L2.CX P w) P w K mg base N q (defScope st) f cdv A outer s H E).A (cxOf (L2.CX P w) P w K mg base N q (defScope st) f cdv A outer s H E).env (cxOf (L2.CX P w) P w K mg base N q (defScope st) f cdv A outer s H E).xe → LiftS K G (fun _ => E) WD →
      ∃ t, DSs (cxOf (L2.CX P w) P w K mg base N q (defScope st) f cdv A outer s H E) G (defBody st) t (a WD))
    (hr : ∀ ds W QD ED, sp ds W QD ED → a (fun _ => ED) { nx := fun _ W' => QD .non W', rt := QD } (startD N ds) W) : FkB P w K mg base (L2.CX P w) (k + 1) f nm q st dvs kws ps sp := by
  obtain ⟨fd, F⟩ := F.ex
  refine ⟨fd, F, FunD.okG F S (fun vs H Q E h => ?_) (fun cdv A outer s H vs Q E hr' h => ?_)⟩
  · obtain ⟨G, W, ds, QD, ED, _, d, h, _⟩ := h
    rw [← d.length]
    exact len _ _ _ _ h
  · obtain ⟨G, W, ds, QD, ED, R, d, h, kt, hl⟩ := h
    obtain ⟨t, db⟩ := hbody cdv A outer s H E G (fun _ => ED) hr'.rm hr'.gd (takes_of rfl rfl rfl rfl) (passes_of rfl) (fun _ _ _ s _ => hl.up s)
    refine ⟨t, db.ps, db.sim _ { nx := fun _ W' => QD .non W', rt := QD } _ H G _ W (Same.refl G) R (isSl_start d) ⟨?_, kt, ?_, ?_⟩ (hr ds W QD ED h)⟩
    · exact fun σ δ G' H' W' s' R' S' q => kt _ .non G' H' W' s' R' rfl q
    · exact fun _ _ _ _ _ _ _ _ q => q.elim
    · exact fun _ _ _ _ _ _ _ _ q => q.elim
end
section
variable {X : Cx} {G0 : Hp} {pos p pos' np : PySem.Pos} {x : Str} {W : WX} {WD : AW}
/-- what the text says of an own exception class without __init__ -/
structure ExcK (K : PySem.W.Frag) (mg : Str → Option Value) (n : Str) : Prop where
  ex : PySem.W.excIn K (He.ga K n) He.veBase "ValueError.__new__" = true
  kp : PySem.W.keepIn K (.ref (He.ga K n)) = true
  sb : PySem.W.subIn K (.ref (He.ga K n)) (.type "BaseException") = some true
  ty : PySem.W.typeIn K (.ref (He.ga K n)) = some (.type "type")
  gl : mg n = some (.ref (He.ga K n))
theorem pmk_ownN {C : Addr} {bmB : List Value} {B newId initId : String} (F : ExcBaseFacts B newId initId bmB) (q : PySem.W.excIn X.K C bmB newId = true) (gC : X.mg x = some (.ref C)) (kC : PySem.W.keepIn X.K (.ref C) = true) (r : Raises X (.ref C)) (hg : Gl X x)
    (hdb : (x == ("__debug__" : Str)) = false := by decide) : PMk X (.Call (.Name x p) [] [] pos) (fun _ H Q => Q (.ref C) none H) := by
  intro pins s σ H Q I h
  refine wpAny_Call_Name_kw (ld_glob I hg gC (PySem.W.callWith_K0 I.kIn kC ?_) hdb)
  show wpAny _ _ (call (.ref C) []) _ _ _
  obtain ⟨bm, N, nm, qn, bs, hdct, sn, sub, ab, col, dd, k0, k1, k2, k3, k5, mN, hC, hN, hni, T⟩ := exc_obj I.kIn q
  exact wpAny_call_exc_subT F T hC hN hni (fun h' e hm => mk_of I hm r h (I.hok.gone hm.new)) (by show 0 ≤ sizeLine; exact Nat.zero_le _)
def aRaise (n : Str) (WD : AW) : AS := fun _ δ W => WD δ n [] W
theorem ds_raise0 (K : PySem.W.Frag) (hc : X.calm = true) (tk : Takes X W) (hl : LiftS K G0 (WE W) WD) (F : ExcK X.K X.mg x) (hK : X.K = K := by rfl) (hg : Gl X x := by rfl) (hdb : (x == ("__debug__" : Str)) = false := by decide) :
    DS X G0 (.Raise (some (.Call (.Name x p) [] [] pos)) none pos') (fun _ σ H => W (.ref (He.ga K x)) none σ H) (aRaise x WD) := by
  subst hK
  refine ⟨ps_raise hc tk (pmk_ownN PySem.F.excBase_ValueError F.ex F.gl F.kp (raises_own F.sb F.ty) hg hdb), fun E A σ H G δ W' s0 R S eo h => ?_⟩
  exact hl σ δ G s0 S x [] none G H W' (Same.refl G) R (.inl ⟨rfl, rfl⟩) h
variable {e : Expr} {es : List Expr} {t : L2.TA} {at' : AA} {k : Nat} {fa : Addr} {ps : List Str} {sp : SpD}
theorem IsSl.unset {K : PySem.W.Frag} {G : Hp} {δ : Sl} {σ : L2.St} (h : IsSl K G δ σ) (i : Nat) : IsSl K G (δ.set i none) (σ.set i none) := by
  refine ⟨by rw [List.length_set, List.length_set, h.len], fun j e he => ?_⟩
  by_cases hj : i = j
  · subst hj
    rw [List.getElem?_set] at he
    simp at he
  · rw [List.getElem?_set_ne hj] at he
    rw [List.getElem?_set_ne hj]
    exact h.get j e he
def Acut (i : Nat) (A : AEnds) : AEnds := { nx := fun δ W => A.nx (δ.set i none) W, rt := A.rt, bk := fun δ W => A.bk (δ.set i none) W, ct := fun δ W => A.ct (δ.set i none) W }
def aTryAs (i : Nat) (n : Str) (ab : AW → AS) (asu : Addr → AS) : AS := fun A δ W => ab (fun δ' n' fs W' => n' = n ∧ fs = [] ∧ ∀ a, W' a = none → asu a (Acut i A) (δ'.set i (some (.ptr a))) W') A δ W
def aTry (ns : List Str) (ab : AW → AS) (asu : AS) : AS := fun A δ W => ab (fun δ' n' _ W' => n' ∈ ns ∧ asu A δ' W') A δ W
open Classical in
noncomputable def tsOf (D : Value) (ts : Addr → TS) : Addr → Value → Option Addr → TS := fun a cls d => if cls = D ∧ d = none then ts a else tNever
/-- a wish that a try's body can bear -/
def xeLook (X : Cx) : Value → Shared → Prop := fun e s1 => wpAny (model X.prog X.w) X.A (noteFrame e X.env) (fun _ s2 => wpAny (model X.prog X.w) X.A (setFlight e none) (fun _ _ => True) X.xe s2) X.xe s1
theorem takes_look (hs : X.stack = X.env :: X.outer) (hf : X.env.frame = some X.env.locals) {pn : List (Addr × Obj)} : Takes (X.tr pn (xeLook X)) W := by
  rintro u s' ⟨a, B, sI, pins', σ', H', cls, d, rfl, J', nb, up, sky, na, os, ag, _⟩
  have sky' : Sky B (X.env :: X.outer) a (Zc cls d) X.env.locals s'.heap := by rw [← hs]; exact sky
  have hfr : X.A.frames = some (X.env :: X.outer) := by rw [J'.ok.ofTry.frames, hs]
  exact Sky.land Zc.steady hfr hf sky' fun _ _ _ => trivial
theorem passes_look : PassesOwn (model X.prog X.w) X.A X.env (xeLook X) := PassesOwn.looking
variable {body suite : List Stmt} {b₀ : Stmt} {tb : WX → TS} {ts : Addr → TS} {ab : AW → AS} {asu : Addr → AS} {Wout : WX} {i : Nat} {m n : Str}
theorem EndsOk.cut {K : PySem.W.Frag} {G : Hp} {E : Ends} {A : AEnds} (eo : EndsOk K G E A) (i : Nat) : EndsOk K G { nx := fun σ' H' => E.nx (σ'.set i none) H', rt := E.rt, bk := fun σ' H' => E.bk (σ'.set i none) H', ct := fun σ' H' => E.ct (σ'.set i none) H' } (Acut i A) :=
  ⟨fun σ δ G' H' W' s R S n => eo.nx _ _ _ _ _ s R (S.unset i) n, eo.rt, fun σ δ G' H' W' s R S n => eo.bk _ _ _ _ _ s R (S.unset i) n, fun σ δ G' H' W' s R S n => eo.ct _ _ _ _ _ s R (S.unset i) n⟩
theorem ds_tryAs (n : Str) (hs : X.stack = X.env :: X.outer) (hf : X.env.frame = some X.env.locals) (hN : X.N.Nodup) (hi : X.N[i]? = some m) (hln : X.env.kindOf m = some .local) (hc : Names X x (.ref (He.ga X.K x))) (hex : PySem.W.exmOne X.K (.ref (He.ga X.K n)) (.ref (He.ga X.K x)) = some true) (tk : Takes X Wout)
    (hb : ∀ (W : WX) (WD : AW) (pn : List (Addr × Obj)) (xe : Value → Shared → Prop) (G1 : Hp), Same G0 G1 → Takes (X.tr pn xe) W → PassesOwn (model X.prog X.w) X.A X.env xe → LiftS X.K G1 (WE W) WD → DSs (X.tr pn xe) G1 body (tb W) (ab WD))
    (hsu : ∀ (a : Addr) (oe : Obj) (pn : List (Addr × Obj)), Zc (.ref (He.ga X.K n)) none oe → (∃ vs, oe.data = .fields vs) → DSs (X.suite a ((a, oe) :: pn)) G0 (b₀ :: suite) (ts a) (asu a)) :
    DS X G0 (.Try body [.ExceptHandler (some (.Name x np)) (some m) (b₀ :: suite) pos'] [] [] pos) (fun D σ H => tb (wAs X.K (.ref (He.ga X.K x)) i (tsOf (.ref (He.ga X.K n)) ts) Wout D) D σ H) (aTryAs i n ab asu) := by
  refine ⟨ps_try_as hs hf hN hi hln hc tk (fun W pn xe tk' hp => (hb W AW.none pn xe G0 (Same.refl G0) tk' hp liftS_none).ps) (fun a oe cls d pn hz hf' => ?_), ?_⟩
  · unfold tsOf
    by_cases h : cls = .ref (He.ga X.K n) ∧ d = none
    · rw [if_pos h]
      obtain ⟨rfl, rfl⟩ := h
      exact (hsu a oe pn hz hf').ps
    · rw [if_neg h]; exact pss_never
  · intro E A σ H G δ W s0 R S eo h
    refine (hb (wAs X.K (.ref (He.ga X.K x)) i (tsOf (.ref (He.ga X.K n)) ts) Wout E) _ X.pn (xeLook X) G s0 (takes_look hs hf) passes_look ?_).sim E A σ H G δ W (Same.refl G) R S eo h
    intro σ1 δ1 G1 s1 S1 n1 fs od G2 H2 W2 s2 R2 hx hw
    obtain ⟨rfl, rfl, hw⟩ := hw
    refine ⟨true, hex, fun _ a ha => ?_, fun z => nomatch z⟩
    have hod : od = none := by
      rcases hx with ⟨_, e⟩ | ⟨b, vs, e, _⟩
      · exact e
      · exact absurd rfl e
    subst hod
    unfold tsOf
    rw [if_pos ⟨rfl, rfl⟩]
    have s02 := s0.trans (s1.trans s2)
    have dm : Obj := { cls := .ref (He.ga X.K n1), data := .fields #[] }
    exact (hsu a { cls := .ref (He.ga X.K n1), data := .fields #[] } [] ⟨rfl, rfl⟩ ⟨_, rfl⟩).sim _ (Acut i A) _ _ _ _ _ s02 R2 ((S1.up s2).set i (d := .ptr a) (v := .ref a) rfl) ((eo.up (s1.trans s2)).cut i) (hw a (R2.freeW ha))
theorem ds_try (ns : List Str) {as1 : AS} {ts1 : TS} (hs : X.stack = X.env :: X.outer) (hf : X.env.frame = some X.env.locals) (hc : Names X x (.ref (He.ga X.K x))) (hex : ∀ n ∈ ns, PySem.W.exmOne X.K (.ref (He.ga X.K n)) (.ref (He.ga X.K x)) = some true) (tk : Takes X Wout)
    (hb : ∀ (W : WX) (WD : AW) (pn : List (Addr × Obj)) (xe : Value → Shared → Prop) (G1 : Hp), Same G0 G1 → Takes (X.tr pn xe) W → PassesOwn (model X.prog X.w) X.A X.env xe → LiftS X.K G1 (WE W) WD → DSs (X.tr pn xe) G1 body (tb W) (ab WD))
    (hsu : ∀ (a : Addr) (oe : Obj) (pn : List (Addr × Obj)), (∃ vs, oe.data = .fields vs) → DSs (X.suite a ((a, oe) :: pn)) G0 (b₀ :: suite) ts1 as1) :
    DS X G0 (.Try body [.ExceptHandler (some (.Name x np)) none (b₀ :: suite) pos'] [] [] pos) (fun D σ H => tb (wOnly X.K (.ref (He.ga X.K x)) (fun _ _ _ => ts1) Wout D) D σ H) (aTry ns ab as1) := by
  refine ⟨ps_try_only hs hf hc tk (fun W pn xe tk' hp => (hb W AW.none pn xe G0 (Same.refl G0) tk' hp liftS_none).ps) (fun a oe cls d pn hz hf' => (hsu a oe pn hf').ps), ?_⟩
  intro E A σ H G δ W s0 R S eo h
  refine (hb (wOnly X.K (.ref (He.ga X.K x)) (fun _ _ _ => ts1) Wout E) _ X.pn (xeLook X) G s0 (takes_look hs hf) passes_look ?_).sim E A σ H G δ W (Same.refl G) R S eo h
  intro σ1 δ1 G1 s1 S1 n1 fs od G2 H2 W2 s2 R2 hx hw
  obtain ⟨hn, hw⟩ := hw
  refine ⟨true, hex n1 hn, fun _ a ha => ?_, fun z => nomatch z⟩
  exact (hsu a { cls := .ref (He.ga X.K n1), data := .fields #[] } [] ⟨_, rfl⟩).sim E A _ _ _ _ _ (s0.trans (s1.trans s2)) R2 (S1.up s2) (eo.up (s1.trans s2)) hw
def aIsE (i : Nat) (a : Addr) (b : Bool) : AE := fun δ W Q => δ[i]? = some (some (.ptr a)) ∧ Q (.bl b) W
theorem de_isE {a : Addr} {oe : Obj} {pn : List (Addr × Obj)} {cV : V} {cv : Value} {b : Bool} {y z : Str} {p1 p2 p3 : PySem.Pos} (C : ExcC X.K (He.ga X.K n)) (hz : Zc (.ref (He.ga X.K n)) none oe) (hf : ∃ vs, oe.data = .fields vs)
    (hv : PE (X.suite a ((a, oe) :: pn)) (.Name y p1) (tVar i)) (hc : PE (X.suite a ((a, oe) :: pn)) (.Name z p2) (tC cV)) (hcv : ∀ u, L2.RelV cV u → u = cv) (hk : PySem.W.kitOne X.K (.ref (He.ga X.K n)) cv = some b) (hm : X.mg "isinstance" = none)
    (hg : Gl (X.suite a ((a, oe) :: pn)) "isinstance" := by rfl) (he : starEach [.Name y p1, .Name z p2] X.env = (false, eval (.Name y p1) X.env) :: starEach [.Name z p2] X.env := by rfl) (he2 : starEach [.Name z p2] X.env = (false, eval (.Name z p2) X.env) :: starEach [] X.env := by rfl) (hpl : (backTo pos (starEach [.Name z p2] X.env)).any (·.1) = false := by rfl) :
    DE (X.suite a ((a, oe) :: pn)) G0 (.Call (.Name "isinstance" p3) [.Name y p1, .Name z p2] [] pos) (tCB (rIsE X.K (He.ga X.K n) a) (tCons (tVar i) (tCons (tC cV) tNil))) (aIsE i a b) := by
  refine ⟨pe_callB (call_isE C hz hf) hg hm (by decide +kernel) (pa_cons hv (pa_cons hc pa_nil he2) he) (by decide) (by decide) he hpl, fun σ H Q G δ W QD s0 R S h k => ?_⟩
  obtain ⟨e, q⟩ := h
  obtain ⟨v, e2, hv⟩ := S.get i _ e
  cases (show v = .ref a from hv)
  exact ⟨_, e2, cV, cv, b, rfl, hcv, hk, k.here (d := .bl b) R rfl q⟩
end
end DL

namespace DL
open PySem PySem.Spec PyProof.Rows L2
theorem passNo {X : Cx} (σ : L2.St) : PassesAt (L2.CX X.prog X.w) X σ E0 := fun pins H s e s' I c => passL pins σ H s e s' I c
section
variable {X : Cx} {G0 : Hp} {o e : Expr} {es : List Expr} {to te : TE} {ao ae : AE} {t tk : L2.TA} {at' ak : AA} {pos apos p : PySem.Pos} {f m x : Str} {k n : Nat} {ps ks : List Str} {c : Str} {sp : SpD} {src : List Src} {ms : List V} {md : List D} {kws : List Keyword} {fa : Addr} {CX : CXT} {E : L2.St → XK} {ED : AW}
theorem de_fldK (K : PySem.W.Frag) (n : Str) (c : Cls K (He.ga K n)) (na : NoAttr K (He.ga K n) f) (ho : DE X G0 o to ao) (hK : X.K = K := by rfl) (hb : attributeBase o f X.env (eval o X.env) = eval o X.env := by rfl) : DE X G0 (.Attribute o f pos) (tFld K to f) (aFld n f ao) := by
  subst hK; exact de_fld n c na ho hb
theorem ds_fldK (K : PySem.W.Frag) (n : Str) (c : Cls K (He.ga K n)) (na : NoAttr K (He.ga K n) f) (ho : DE X G0 o to ao) (he : DE X G0 e te ae) (hK : X.K = K := by rfl) (hs : swapsWith e (some (.Attribute o f apos)) pos.line X.env = pure false := by rfl) : DS X G0 (.Assign [.Attribute o f apos] e pos) (sFld K to te f) (aFldS n f ao ae) := by
  subst hK; exact ds_fld n c na ho he hs
theorem de_callK (K : PySem.W.Frag) (hx : ∀ σ, PassesAt CX X σ (E σ)) (hl : LiftS K G0 E ED) (g : FkM X.prog X.w K X.mg X.base CX k fa ps sp) (hm : X.mg x = some (.ref fa)) (hk : PySem.W.keepIn K (.ref fa) = true) (hr : Room k X.A) (hgd : X.A.guards = some [])
    (ha : DA X G0 (e :: es) t at') (hK : X.K = K := by rfl) (hg : Gl X x := by rfl) (hdb : (x == ("__debug__" : Str)) = false := by decide) (he : starEach (e :: es) X.env = (false, eval e X.env) :: starEach es X.env := by rfl) (hpl : (backTo pos (starEach es X.env)).any (·.1) = false := by rfl) :
    DE X G0 (.Call (.Name x p) (e :: es) [] pos) (tCallD (liftSp K sp) [] E t) (aCallX sp [] ED at') := by
  subst hK
  obtain ⟨fd, F, b⟩ := g.ex
  exact ⟨pe_callG F ⟨hr, hgd⟩ hg hm hk b .nil hx ha.pa hdb he hpl, sim_callX hl (fun _ => rfl) ha.sim⟩
theorem de_methNK {pl : Sem Bool} (K : PySem.W.Frag) (hx : ∀ σ, PassesAt CX X σ (E σ)) (hl : LiftS K G0 E ED) (hc : Cls K (He.ga K c)) (hm : Meth K (He.ga K c) m fa) (g : FkN X.prog X.w K X.mg X.base CX k fa ps (n + 1) ks src ms sp) (hmd : ∀ G, IsDs K G md ms) (hr : Room k X.A) (hgd : X.A.guards = some [])
    (ho : DE X G0 o to ao) (ha : DA X G0 (e :: es) t at') (hkw : DK X G0 kws tk ak) (hK : X.K = K := by rfl) (hall : (backToKw pos (keywordEach kws X.env)).all (·.1.isSome) = true := by rfl) (hks : (backToKw pos (keywordEach kws X.env)).filterMap (·.1) = ks := by rfl)
    (hst : starEach (e :: es) X.env = (false, eval e X.env) :: starEach es X.env := by rfl)
    (hpl : ((backTo pos (starEach (e :: es) X.env)).any (·.1) || (backToKw pos (keywordEach kws X.env)).any (·.1.isNone)) = false := by rfl)
    (ht : eval (.Call (.Attribute o m apos) (e :: es) kws pos) X.env = (do
      let ov ← eval o X.env
      standAt apos.atName
      let (f, first) ← holding [ov] (getMethod ov m pl)
      callWith pos f first (backTo pos (starEach (e :: es) X.env)) (backToKw pos (keywordEach kws X.env))) := by rfl) :
    DE X G0 (.Call (.Attribute o m apos) (e :: es) kws pos) (tMethNG (He.ga K c) m n ks.length (liftSp K sp) (fun vs zs => pick vs ms zs src) E to t tk) (aMethN c m n ks.length src md sp ED ao at' ak) := by
  subst hK; exact de_methN hx hl hc hm g hmd hr hgd ho ha hkw hall hks hst hpl ht
theorem de_methK {pl : Sem Bool} (K : PySem.W.Frag) (hx : ∀ σ, PassesAt CX X σ (E σ)) (hl : LiftS K G0 E ED) (hc : Cls K (He.ga K c)) (hm : Meth K (He.ga K c) m fa) (g : FkM X.prog X.w K X.mg X.base CX k fa ps sp) (hr : Room k X.A) (hgd : X.A.guards = some [])
    (ho : DE X G0 o to ao) (ha : DA X G0 (e :: es) t at') (hK : X.K = K := by rfl) (hst : starEach (e :: es) X.env = (false, eval e X.env) :: starEach es X.env := by rfl) (hpl : (backTo pos (starEach es X.env)).any (·.1) = false := by rfl)
    (ht : eval (.Call (.Attribute o m apos) (e :: es) [] pos) X.env = (do
      let ov ← eval o X.env
      standAt apos.atName
      let (f, first) ← holding [ov] (getMethod ov m pl)
      callWith pos f first (backTo pos (starEach (e :: es) X.env)) (backToKw pos (keywordEach [] X.env))) := by rfl) :
    DE X G0 (.Call (.Attribute o m apos) (e :: es) [] pos) (tMethD (He.ga K c) m (liftSp K sp) [] E to t) (aMeth c m sp [] ED ao at') := by
  subst hK; exact de_meth hx hl hc hm g hr hgd ho ha hst hpl ht
theorem de_meth0K {pl : Sem Bool} (K : PySem.W.Frag) (hx : ∀ σ, PassesAt CX X σ (E σ)) (hl : LiftS K G0 E ED) (hc : Cls K (He.ga K c)) (hm : Meth K (He.ga K c) m fa) (g : FkM X.prog X.w K X.mg X.base CX k fa ps sp) (hr : Room k X.A) (hgd : X.A.guards = some [])
    (ho : DE X G0 o to ao) (hK : X.K = K := by rfl)
    (ht : eval (.Call (.Attribute o m apos) [] [] pos) X.env = (do
      let ov ← eval o X.env
      standAt apos.atName
      let (f, first) ← holding [ov] (getMethod ov m pl)
      callWith pos f first (backTo pos (starEach [] X.env)) (backToKw pos (keywordEach [] X.env))) := by rfl) :
    DE X G0 (.Call (.Attribute o m apos) [] [] pos) (tMethD (He.ga K c) m (liftSp K sp) [] E to tNil) (aMeth c m sp [] ED ao aNil) := by
  subst hK; exact de_meth0 hx hl hc hm g hr hgd ho ht
theorem de_makeK (K : PySem.W.Frag) (hx : ∀ σ, PassesAt CX X σ (E σ)) (hl : LiftS K G0 E ED) (M : Mk K (He.ga K x) fa) (g : FkM X.prog X.w K X.mg X.base CX k fa ps sp) (hm : X.mg x = some (.ref (He.ga K x))) (hr : Room (k + 1) X.A) (hgd : X.A.guards = some [])
    (ha : DA X G0 (e :: es) t at') (hK : X.K = K := by rfl) (hg : Gl X x := by rfl) (hdb : (x == ("__debug__" : Str)) = false := by decide) (he : starEach (e :: es) X.env = (false, eval e X.env) :: starEach es X.env := by rfl) (hpl : (backTo pos (starEach es X.env)).any (·.1) = false := by rfl) :
    DE X G0 (.Call (.Name x p) (e :: es) [] pos) (tMakeD (He.ga K x) (liftSp K sp) [] E t) (aMake x sp [] ED at') := by
  subst hK; exact de_make hx hl M g hm hr hgd ha hg hdb he hpl
theorem de_make0K (K : PySem.W.Frag) (hx : ∀ σ, PassesAt CX X σ (E σ)) (hl : LiftS K G0 E ED) (M : Mk K (He.ga K x) fa) (g : FkM X.prog X.w K X.mg X.base CX k fa ps sp) (hm : X.mg x = some (.ref (He.ga K x))) (hr : Room (k + 1) X.A) (hgd : X.A.guards = some [])
    (hK : X.K = K := by rfl) (hg : Gl X x := by rfl) (hdb : (x == ("__debug__" : Str)) = false := by decide) :
    DE X G0 (.Call (.Name x p) [] [] pos) (tMakeD (He.ga K x) (liftSp K sp) [] E tNil) (aMake x sp [] ED aNil) := by
  subst hK; exact de_make0 hx hl M g hm hr hgd hg hdb
end
theorem SaysX.d {fa : List He.Fa} {fn : List He.DefD} {xs : List Lk} {K : PySem.W.Frag} (c : SaysX fa fn xs K) : He.SaysD fa fn K := congrArg (fun z : Bool × He.AlD => z.2) c
theorem SaysX.x {fa : List He.Fa} {fn : List He.DefD} {xs : List Lk} {K : PySem.W.Frag} (c : SaysX fa fn xs K) (i : Nat) {x : Lk} (h : xs[i]? = some x := by rfl) : x K = true := by
  have h1 : (xs.all fun x => x K) = true := congrArg (fun z : Bool × He.AlD => z.1) c
  exact List.all_eq_true.mp h1 x (List.mem_of_getElem? h)
theorem lkExc_ok {K : PySem.W.Frag} {n : Str} (h : lkExc n K = true) : ExcC K (He.ga K n) := by
  unfold lkExc at h
  simp only [Bool.and_eq_true, decide_eq_true_eq] at h
  obtain ⟨h1, h2, h3, h4, h5, h6, h7, h8⟩ := h
  exact ⟨h1, h2, h3, h4, h5, h6, h7, h8⟩
theorem lkIsT_ok {K : PySem.W.Frag} {n : Str} {m : String} {b : Bool} (h : lkIsT n m b K = true) : PySem.W.kitOne K (.ref (He.ga K n)) (.type m) = some b := of_decide_eq_true h
end DL

namespace DL
open PySem PySem.Spec PyProof.Rows L2
section
variable {δ δ' : Sl} {W W1 : Wd} {Q : DQ} {A : AEnds} {a b c : AE} {l tk : AA} {s : AS} {d e : D} {ds es : List D} {n f m : Str} {fs : List (Str × D)} {q : Addr} {sp : SpD} {dds : List D} {ED WD : AW} {i : Nat} {ab : AW → AS} {asu : Addr → AS} {as1 : AS} {nm : List Str} {k : Bool}
theorem go_intB (h : Q (.int (if k = true then 1 else 0)) W) : dInt [.bl k] W Q := h
theorem go_callX (h : l δ W fun ds W1 => sp (ds ++ dds) W1 Q (ED δ)) : aCallX sp dds ED l δ W Q := h
theorem go_callXN {E : DX} (h : sp ds W Q E) : sp (ds ++ []) W Q E := by rw [List.append_nil]; exact h
theorem go_raise (h : WD δ n [] W) : aRaise n WD A δ W := h
theorem go_try (h : ab (fun δ' n' _ W' => n' ∈ nm ∧ as1 A δ' W') A δ W) : aTry nm ab as1 A δ W := h
theorem go_tryAs (h : ab (fun δ' n' fs W' => n' = n ∧ fs = [] ∧ ∀ a, W' a = none → asu a (Acut i A) (δ'.set i (some (.ptr a))) W') A δ W) : aTryAs i n ab asu A δ W := h
theorem go_isE (h0 : δ[i]? = some (some (.ptr q))) (h : Q (.bl k) W) : aIsE i q k δ W Q := ⟨h0, h⟩
theorem go_fld (h : a δ W fun x W1 => ∃ fs d, objOf W1 x = some (n, fs) ∧ fs.lookup f = some d ∧ Q d W1) : aFld n f a δ W Q := h
theorem go_fldV {N : D → Prop} (h0 : objOf W e = some (n, fs)) (h1 : fs.lookup f = some d) (h : N d) : ∃ fs d, objOf W e = some (n, fs) ∧ fs.lookup f = some d ∧ N d := ⟨fs, d, h0, h1, h⟩
theorem go_fldS (h : b δ W fun y W1 => a δ W1 fun x W2 => ∃ l fs, x = .ptr l ∧ W2 l = some (.obj n fs) ∧ fs.length < 1000 ∧ A.nx δ (W2.set l (.obj n (putD f y fs)))) : aFldS n f a b A δ W := h
theorem go_meth (h : a δ W fun x W1 => (∃ fs, objOf W1 x = some (n, fs) ∧ fs.lookup m = none) ∧ l δ W1 fun ds W2 => sp (x :: (ds ++ dds)) W2 Q (ED δ)) : aMeth n m sp dds ED a l δ W Q := h
theorem go_methV {p : Prop} (h0 : objOf W e = some (n, fs)) (h1 : fs.lookup m = none) (h : p) : (∃ fs, objOf W e = some (n, fs) ∧ fs.lookup m = none) ∧ p := ⟨⟨fs, h0, h1⟩, h⟩
theorem go_methA {E : DX} (h : sp (d :: ds) W Q E) : sp (d :: (ds ++ [])) W Q E := by rw [List.append_nil]; exact h
theorem go_callKw {x y : Nat} {src : List Src} {ms : List D} (h : l δ W fun ds W1 => tk δ W1 fun zs W2 => ds.length = x ∧ zs.length = y ∧ sp (pick ds ms zs src) W2 Q (ED δ)) : aCallN x y src ms sp ED l tk δ W Q := h
theorem go_methN {x y : Nat} {src : List Src} {ms : List D} (h : a δ W fun z W1 => (∃ fs, objOf W1 z = some (n, fs) ∧ fs.lookup m = none) ∧ l δ W1 fun ds W2 => tk δ W2 fun zs W3 => ds.length = x ∧ zs.length = y ∧ sp (pick (z :: ds) ms zs src) W3 Q (ED δ)) : aMethN n m x y src ms sp ED a l tk δ W Q := h
theorem go_make (h : l δ W fun ds W1 => ∀ l, W1 l = none → sp (.ptr l :: (ds ++ dds)) (W1.set l (.obj n [])) (fun v W2 => v = .non ∧ Q (.ptr l) W2) (ED δ)) : aMake n sp dds ED l δ W Q := h
end
def Trm.hasArg : Trm → Int → Bool
  | .var _, _ => false
  | .app _ ts, k => decide (1 ≤ k) && decide (k ≤ ts.length)
theorem Trm.hasArg_app {t : Trm} {i : Int} (h : t.hasArg i = true) : ∃ f ts x, t = .app f ts ∧ 1 ≤ i ∧ ts[(i - 1).toNat]? = some x := by
  cases t with
  | var v => cases h
  | app f ts =>
    unfold Trm.hasArg at h
    simp only [Bool.and_eq_true, decide_eq_true_eq] at h
    have hl : (i - 1).toNat < ts.length := by omega
    exact ⟨f, ts, ts[(i - 1).toNat], rfl, h.1, List.getElem?_eq_getElem hl⟩
def Trm.isPos : Trm → List Int → Bool
  | _, [] => true
  | .var _, _ :: _ => false
  | .app _ ts, i :: p => if 1 ≤ i then match ts[(i - 1).toNat]? with
    | some t => t.isPos p
    | none => false
    else false
def Trm.at : Trm → List Int → Trm
  | t, [] => t
  | .var v, _ :: _ => .var v
  | .app f ts, i :: p => match ts[(i - 1).toNat]? with
    | some t => t.at p
    | none => .app f ts
theorem isPos_cons {f : Str} {ts : List Trm} {i : Int} {x : Trm} {p : List Int} (h1 : 1 ≤ i) (h2 : ts[(i - 1).toNat]? = some x) : (Trm.app f ts).isPos (i :: p) = x.isPos p := by
  rw [Trm.isPos, if_pos h1]; split
  · rename_i e; rw [h2] at e; cases e; rfl
  · rename_i e; rw [h2] at e; cases e
theorem at_cons {f : Str} {ts : List Trm} {i : Int} {x : Trm} {p : List Int} (h2 : ts[(i - 1).toNat]? = some x) : (Trm.app f ts).at (i :: p) = x.at p := by
  rw [Trm.at]; split
  · rename_i e; rw [h2] at e; cases e; rfl
  · rename_i e; rw [h2] at e; cases e
theorem isPos_no {t : Trm} {i : Int} {p : List Int} (h : t.hasArg i = false) : t.isPos (i :: p) = false := by
  cases t with
  | var v => rfl
  | app f ts =>
    rw [Trm.isPos]
    split
    · rename_i h1
      split
      · rename_i e
        have hl : (i - 1).toNat < ts.length := by
          by_cases g : (i - 1).toNat < ts.length
          · exact g
          · rw [List.getElem?_eq_none (by omega)] at e; cases e
        unfold Trm.hasArg at h
        simp only [h1, decide_true, Bool.true_and, decide_eq_false_iff_not] at h
        omega
      · rfl
    · rfl
theorem isPos_step {t : Trm} {i : Int} {p : List Int} (h : t.isPos (i :: p) = true) : ∃ f ts x, t = .app f ts ∧ 1 ≤ i ∧ ts[(i - 1).toNat]? = some x ∧ x.isPos p = true := by
  cases g : t.hasArg i with
  | false => rw [isPos_no g] at h; cases h
  | true =>
    obtain ⟨f, ts, x, rfl, h1, h2⟩ := Trm.hasArg_app g
    rw [isPos_cons h1 h2] at h
    exact ⟨f, ts, x, rfl, h1, h2, h⟩
theorem Pos.isPos {t : Trm} {p : List Int} (h : Pos t p) : t.isPos p = true := by
  induction h with
  | nil => rw [Trm.isPos]
  | cons h0 h1 _ ih => rw [isPos_cons h0 h1]; exact ih
theorem pos_of {p : List Int} : ∀ {t : Trm}, t.isPos p = true → Pos t p := by
  induction p with
  | nil => intro t _; exact .nil
  | cons i p ih =>
    intro t h
    obtain ⟨f, ts, x, rfl, h1, h2, h3⟩ := isPos_step h
    exact .cons h1 h2 (ih h3)
theorem put_isPos {t u : Trm} {p : List Int} (h : t.isPos p = true) : (t.put p u).isPos p = true := by
  induction p generalizing t with
  | nil => rw [Trm.isPos]
  | cons i p ih =>
    obtain ⟨f, ts, x, rfl, h1, h2, h3⟩ := isPos_step h
    rw [put_cons h2]
    have hl : (i - 1).toNat < ts.length := by
      by_cases g : (i - 1).toNat < ts.length
      · exact g
      · rw [List.getElem?_eq_none (by omega)] at h2; cases h2
    rw [isPos_cons h1 (List.getElem?_set_self hl)]
    exact ih h3
theorem put_back {t u : Trm} {p : List Int} (h : t.isPos p = true) : (t.put p u).put p (t.at p) = t := by
  induction p generalizing t with
  | nil => rw [Trm.put, Trm.at]
  | cons i p ih =>
    obtain ⟨f, ts, x, rfl, h1, h2, h3⟩ := isPos_step h
    have hl : (i - 1).toNat < ts.length := by
      by_cases g : (i - 1).toNat < ts.length
      · exact g
      · rw [List.getElem?_eq_none (by omega)] at h2; cases h2
    rw [put_cons h2, put_cons (List.getElem?_set_self hl), at_cons h2, ih h3, List.set_set]
    congr 1
    rw [List.getElem?_eq_getElem hl] at h2
    cases h2
    exact List.set_getElem_self hl
theorem at_size {t : Trm} {p : List Int} (h : t.isPos p = true) : (t.at p).size ≤ t.size ∧ (t.at p).depth + p.length ≤ t.depth := by
  induction p generalizing t with
  | nil => rw [Trm.at]; exact ⟨Nat.le_refl _, by simp⟩
  | cons i p ih =>
    obtain ⟨f, ts, x, rfl, h1, h2, h3⟩ := isPos_step h
    rw [at_cons h2, Trm.size, Trm.depth, List.length_cons]
    have := ih h3
    have := size_mem (List.mem_of_getElem? h2)
    have := Trm.depths_le (List.mem_of_getElem? h2)
    omega
end DL

namespace DL
open PySem PySem.Spec PyProof.Rows L2
theorem go_ninC {z : Str} {c : Nat} {W : Wd} {Q : DQ} (h : Q (.bl (!decide (c ∈ z.cps.toList))) W) : dIn true (.str ⟨#[c]⟩) (.str z) W Q := ⟨_, rfl, by rw [if_pos rfl, StrLaws.found_one]; exact h⟩
theorem abc_list : ("abcdefghijklmnopqrstuvwxyz" : Str).cps.toList = List.range' 97 26 := by decide +kernel
theorem mem_abc (c : Nat) : c ∈ ("abcdefghijklmnopqrstuvwxyz" : Str).cps.toList ↔ 97 ≤ c ∧ c ≤ 122 := by rw [abc_list, List.mem_range'_1]; omega
def isName (x : Str) : Bool := (x.cps.toList.all fun c => decide (97 ≤ c ∧ c ≤ 122)) && decide (1 ≤ x.length ∧ x.length ≤ 8)
theorem Nm.isName {x : Str} (h : Nm x) : isName x = true := by
  unfold DL.isName
  rw [Bool.and_eq_true, List.all_eq_true, decide_eq_true_eq]
  exact ⟨fun c hc => decide_eq_true (h.1 c hc), h.2.1, by have := h.2.2; omega⟩
abbrev SgS := List (Str × Int × Bool)
def SgS.names (S : SgS) : List Str := S.map (·.1)
def SgS.ars (S : SgS) : List (Key × D) := S.map fun x => (.inr x.1, .int x.2.1)
def SgS.flgs (S : SgS) : List (Key × D) := S.map fun x => (.inr x.1, .bl x.2.2)
def SgS.find (S : SgS) (n : Str) : Option (Int × Bool) := (List.find? (fun x => decide (x.1 = n)) S).map (·.2)
def sgFs (a b c : D) : List (Str × D) := [("order", a), ("arities", b), ("flags", c)]
def sgD (S : SgS) : D := .fobj "Signature" (sgFs (.lst (S.names.map .str)) (.dk S.ars) (.dk S.flgs))
def sgM (a b c : Addr) : MO := .obj "Signature" (sgFs (.ptr a) (.ptr b) (.ptr c))
structure Dst4 (p a b c : Addr) : Prop where
  pa : p ≠ a
  pb : p ≠ b
  pc : p ≠ c
  ab : a ≠ b
  ac : a ≠ c
  bc : b ≠ c
def sgW0 (W : Wd) (p a b c : Addr) (l : MO) (x y : MO) : Wd := (((W.set p (sgM a b c)).set a l).set b x).set c y
def sgW (W : Wd) (p a b c : Addr) (S : SgS) : Wd := sgW0 W p a b c (.lst (S.names.map .str)) (.dk S.ars) (.dk S.flgs)
section
variable {W : Wd} {p a b c : Addr} {l l' x x' y y' : MO}
theorem Dst4.atp (d : Dst4 p a b c) : sgW0 W p a b c l x y p = some (sgM a b c) := by rw [sgW0, Wd.set_ne d.pc, Wd.set_ne d.pb, Wd.set_ne d.pa, Wd.set_same]
theorem Dst4.ata (d : Dst4 p a b c) : sgW0 W p a b c l x y a = some l := by rw [sgW0, Wd.set_ne d.ac, Wd.set_ne d.ab, Wd.set_same]
theorem Dst4.atb (d : Dst4 p a b c) : sgW0 W p a b c l x y b = some x := by rw [sgW0, Wd.set_ne d.bc, Wd.set_same]
theorem Dst4.atc : sgW0 W p a b c l x y c = some y := by rw [sgW0, Wd.set_same]
theorem Dst4.sa (d : Dst4 p a b c) : (sgW0 W p a b c l x y).set a l' = sgW0 W p a b c l' x y := by
  funext z; simp only [sgW0, Wd.set]; have := d.ab; have := d.ac; have := d.pa; by_cases h : z = a <;> simp_all
theorem Dst4.sb (d : Dst4 p a b c) : (sgW0 W p a b c l x y).set b x' = sgW0 W p a b c l x' y := by
  funext z; simp only [sgW0, Wd.set]; have := d.bc; by_cases h : z = b <;> simp_all
theorem Dst4.sc (d : Dst4 p a b c) : (sgW0 W p a b c l x y).set c y' = sgW0 W p a b c l x y' := by
  funext z; simp only [sgW0, Wd.set]; by_cases h : z = c <;> simp_all
theorem Dst4.del (d : Dst4 p a b c) (h1 : W p = none) (h2 : W a = none) (h3 : W b = none) (h4 : W c = none) : ((((sgW0 W p a b c l x y).del p).del a).del b).del c = W := by
  funext z; simp only [sgW0, Wd.set, Wd.del]
  by_cases hc : z = c
  · subst hc; simp [h4]
  · by_cases hb : z = b
    · subst hb; simp [hc, h3]
    · by_cases ha : z = a
      · subst ha; simp [hc, hb, h2]
      · by_cases hp : z = p
        · subst hp; simp [hc, hb, ha, h1]
        · simp [hc, hb, ha, hp]
end
theorem any_names {α : Type} {S : SgS} {n : Str} (g : Str × Int × Bool → α) : ((S.map fun x => ((.inr x.1 : Key), g x)).any fun kv => decide (kv.1 = .inr n)) = decide (n ∈ S.names) := by
  unfold SgS.names
  induction S with
  | nil => rfl
  | cons x S ih =>
    rw [List.map_cons, List.any_cons, ih, List.map_cons]
    by_cases h : x.1 = n
    · simp [h]
    · have h' : ¬ n = x.1 := fun e => h e.symm
      simp [h, h']
theorem look_names {α : Type} {S : SgS} {n : Str} (g : Str × Int × Bool → α) : look (S.map fun x => ((.inr x.1 : Key), g x)) (.inr n) = (List.find? (fun x => decide (x.1 = n)) S).map g := by
  unfold look
  induction S with
  | nil => rfl
  | cons x S ih =>
    rw [List.map_cons, List.find?_cons, List.find?_cons]
    by_cases h : x.1 = n
    · simp [h]
    · have e1 : decide (x.1 = n) = false := decide_eq_false h
      have e2 : decide ((.inr x.1 : Key) = .inr n) = false := decide_eq_false (by simpa using h)
      simp only [e1, e2]
      exact ih
theorem find_names {S : SgS} {n : Str} : (List.find? (fun x => decide (x.1 = n)) S).isSome = decide (n ∈ S.names) := by
  unfold SgS.names
  induction S with
  | nil => rfl
  | cons x S ih =>
    rw [List.find?_cons, List.map_cons]
    by_cases h : x.1 = n
    · simp [h]
    · have e1 : decide (x.1 = n) = false := decide_eq_false h
      have h' : ¬ n = x.1 := fun e => h e.symm
      simp only [e1, ih]
      simp [h']
theorem look_isSome_ars {S : SgS} {n : Str} : (look S.ars (.inr n)).isSome = decide (n ∈ S.names) := by
  rw [SgS.ars, look_names, Option.isSome_map, find_names]
theorem dput_new {S : SgS} {n : Str} (g : Str × Int × Bool → D) (x : Int × Bool) (h : n ∉ S.names) : dput (S.map fun x => ((.inr x.1 : Key), g x)) (.inr n) (g (n, x)) = (S ++ [(n, x)]).map fun x => ((.inr x.1 : Key), g x) := by
  unfold dput
  rw [any_names, decide_eq_false h]
  simp
theorem names_app (S : SgS) (x : Str × Int × Bool) : SgS.names (S ++ [x]) = S.names ++ [x.1] := by simp [SgS.names]
theorem names_len (S : SgS) : S.names.length = S.length := List.length_map ..
theorem ars_len (S : SgS) : S.ars.length = S.length := List.length_map ..
theorem flgs_len (S : SgS) : S.flgs.length = S.length := List.length_map ..
theorem sg_done {W : Wd} {p a b c : Addr} {S : SgS} {n : Str} {r : Int} {f : Bool} (hm : n ∉ S.names) : sgW0 W p a b c (.lst (S.names.map .str ++ [.str n])) (.dk (dput S.ars (.inr n) (.int r))) (.dk (dput S.flgs (.inr n) (.bl f))) = sgW W p a b c (S ++ [(n, r, f)]) := by
  rw [show dput S.ars (.inr n) (.int r) = SgS.ars (S ++ [(n, r, f)]) from dput_new (fun x => .int x.2.1) (r, f) hm, show dput S.flgs (.inr n) (.bl f) = SgS.flgs (S ++ [(n, r, f)]) from dput_new (fun x => .bl x.2.2) (r, f) hm,
    show S.names.map D.str ++ [D.str n] = (SgS.names (S ++ [(n, r, f)])).map D.str by rw [names_app, List.map_append]; rfl]
  rfl
theorem objOf_sgp {W : Wd} {p a b c : Addr} {l x y : MO} (d : Dst4 p a b c) : objOf (sgW0 W p a b c l x y) (.ptr p) = some (("Signature" : Str), sgFs (.ptr a) (.ptr b) (.ptr c)) := objOf_ptr d.atp
theorem go_fldP {W : Wd} {q : Addr} {n f : Str} {fs fs' : List (Str × D)} {d : D} {N : Wd → Prop} (hw : W q = some (.obj n fs)) (hl : fs.length < 1000) (h1 : putD f d fs = fs') (h : N (W.set q (.obj n fs'))) : ∃ l fs, D.ptr q = .ptr l ∧ W l = some (.obj n fs) ∧ fs.length < 1000 ∧ N (W.set l (.obj n (putD f d fs))) := by subst h1; exact ⟨q, fs, rfl, hw, hl, h⟩
section
variable {W : Wd} {p a b c : Addr} {S : SgS}
theorem Dst4.wp (d : Dst4 p a b c) : sgW W p a b c S p = some (.obj "Signature" (sgFs (.ptr a) (.ptr b) (.ptr c))) := d.atp
theorem Dst4.wa (d : Dst4 p a b c) : sgW W p a b c S a = some (.lst (S.names.map .str)) := d.ata
theorem Dst4.wb (d : Dst4 p a b c) : sgW W p a b c S b = some (.dk S.ars) := d.atb
theorem Dst4.wc (d : Dst4 p a b c) : sgW W p a b c S c = some (.dk S.flgs) := Dst4.atc
end
theorem sg_new {W : Wd} {p a b c : Addr} {m1 m2 m3 : MO} : ((((((W.set p m1).set a (.lst [])).set p m2).set b (.dk [])).set p m3).set c (.dk [])).set p (sgM a b c) = if p = a ∨ p = b ∨ p = c then ((((((W.set p m1).set a (.lst [])).set p m2).set b (.dk [])).set p m3).set c (.dk [])).set p (sgM a b c) else sgW W p a b c [] := by
  split
  · rfl
  · rename_i h
    funext z
    simp only [sgW, sgW0, Wd.set, SgS.names, SgS.ars, SgS.flgs, List.map_nil]
    by_cases hp : z = p
    · subst hp
      have h1 : z ≠ a := fun e => h (.inl e)
      have h2 : z ≠ b := fun e => h (.inr (.inl e))
      have h3 : z ≠ c := fun e => h (.inr (.inr e))
      simp [h1, h2, h3]
    · simp [hp]
theorem dkOf_no {W : Wd} {y : D} {kds : List (Key × D)} (h : dkOf W y = some kds) : (∃ z, y = .dk z) ∨ ∃ z, y = .ptr z := by
  cases y <;> first | exact .inl ⟨_, rfl⟩ | exact .inr ⟨_, rfl⟩ | (simp [dkOf] at h)
theorem go_ninO {W : Wd} {y e : D} {kds : List (Key × D)} {k : Key} {Q : DQ} (h0 : dkOf W y = some kds) (h1 : keyOf e = some k) (h : Q (.bl (!(look kds k).isSome)) W) : dIn true e y W Q := by
  rcases dkOf_no h0 with ⟨z, rfl⟩ | ⟨z, rfl⟩ <;> exact .inr ⟨_, .inl ⟨kds, k, h0, h1, rfl⟩, h⟩
theorem go_ixO {W : Wd} {y e d : D} {kds : List (Key × D)} {k : Key} {Q : DQ} (h0 : dkOf W y = some kds) (h1 : keyOf e = some k) (h2 : look kds k = some d) (h : Q d W) : dIx y e W Q := by
  rcases dkOf_no h0 with ⟨z, rfl⟩ | ⟨z, rfl⟩ <;> exact .inr ⟨d, .inl ⟨kds, k, h0, h1, h2.symm⟩, h⟩
/-- a signature, in the making or for good -/
def SgAt (W : Wd) (x : D) (S : SgS) : Prop := ∃ a b c, objOf W x = some (("Signature" : Str), sgFs a b c) ∧ lstRd W a = some (S.names.map .str) ∧ dkOf W b = some S.ars ∧ dkOf W c = some S.flgs
theorem look_ars {S : SgS} {n : Str} {r : Int} {f : Bool} (h : S.find n = some (r, f)) : look S.ars (.inr n) = some (.int r) := by
  rw [SgS.ars, look_names]
  unfold SgS.find at h
  cases e : List.find? (fun x => decide (x.1 = n)) S with
  | none => rw [e] at h; cases h
  | some x => rw [e] at h; obtain ⟨n', r', f'⟩ := x; simp at h; obtain ⟨rfl, rfl⟩ := h; rfl
theorem look_flgs {S : SgS} {n : Str} {r : Int} {f : Bool} (h : S.find n = some (r, f)) : look S.flgs (.inr n) = some (.bl f) := by
  rw [SgS.flgs, look_names]
  unfold SgS.find at h
  cases e : List.find? (fun x => decide (x.1 = n)) S with
  | none => rw [e] at h; cases h
  | some x => rw [e] at h; obtain ⟨n', r', f'⟩ := x; simp at h; obtain ⟨rfl, rfl⟩ := h; rfl
end DL

namespace DL
open PySem PySem.Spec PyProof.Rows L2
def mkS : Sig → List Bool → SgS
  | x :: xs, f :: fs => (x.1, (x.2 : Int), f) :: mkS xs fs
  | _, _ => []
def SgS.cm (S : SgS) (n : Str) : Bool := ((S.find n).map (·.2)).getD false
theorem mkS_len : ∀ {ops : Sig} {fl : List Bool}, fl.length = ops.length → (mkS ops fl).length = ops.length
  | [], [], _ => rfl
  | _ :: _, _ :: _, h => by rw [mkS, List.length_cons, List.length_cons, mkS_len (by simpa using h)]
  | [], _ :: _, h => by cases h
  | _ :: _, [], h => by cases h
theorem mkS_names : ∀ {ops : Sig} {fl : List Bool}, fl.length = ops.length → (mkS ops fl).names = ops.map Prod.fst
  | [], [], _ => rfl
  | x :: xs, f :: fs, h => by
    have := mkS_names (ops := xs) (fl := fs) (by simpa using h)
    unfold SgS.names at this ⊢
    rw [mkS, List.map_cons, List.map_cons, this]
  | [], _ :: _, h => by cases h
  | _ :: _, [], h => by cases h
theorem mkS_app : ∀ {ops : Sig} {fl : List Bool} {x : Str × Nat} {f : Bool}, fl.length = ops.length → mkS (ops ++ [x]) (fl ++ [f]) = mkS ops fl ++ [(x.1, (x.2 : Int), f)]
  | [], [], _, _, _ => rfl
  | y :: ys, g :: gs, x, f, h => by rw [List.cons_append, List.cons_append, mkS, mkS, List.cons_append, mkS_app (by simpa using h)]
  | [], _ :: _, _, _, h => by cases h
  | _ :: _, [], _, _, h => by cases h
/-- all names of it are known -/
inductive On (S : SgS) : Trm → Prop
  | var {v : Int} : On S (.var v)
  | app {f : Str} {ts : List Trm} (h0 : f ∈ S.names) (h1 : ∀ t ∈ ts, On S t) : On S (.app f ts)
theorem On.args {S : SgS} {f : Str} {ts : List Trm} (h : On S (.app f ts)) : f ∈ S.names ∧ ∀ t ∈ ts, On S t := by
  cases h with | app h0 h1 => exact ⟨h0, h1⟩
theorem Wf.at {ops : Sig} {n : Int} {p : List Int} : ∀ {t : Trm}, Wf ops n t → t.isPos p = true → Wf ops n (t.at p) := by
  induction p with
  | nil => intro t h _; cases t <;> exact h
  | cons i p ih =>
    intro t h hp
    obtain ⟨f, ts, x, rfl, h1, h2, h3⟩ := isPos_step hp
    rw [at_cons h2]
    exact ih (h.args.2 x (List.mem_of_getElem? h2)) h3
end DL

namespace DL
open PySem PySem.Spec PyProof.Rows L2
def mapO {α β : Type} (f : α → Option β) : List α → Option (List β)
  | [] => some []
  | x :: xs => match f x, mapO f xs with
    | some y, some ys => some (y :: ys)
    | _, _ => none
theorem mapO_cons {α β : Type} {f : α → Option β} {x : α} {xs : List α} {zs : List β} (h : mapO f (x :: xs) = some zs) : ∃ y ys, f x = some y ∧ mapO f xs = some ys ∧ zs = y :: ys := by
  rw [mapO] at h
  split at h
  · rename_i y ys e1 e2; cases h; exact ⟨y, ys, e1, e2, rfl⟩
  · cases h
/-- what repr reads of d, n levels deep -/
def rpF (W : Wd) : Nat → D → Option PyData
  | 0, _ => none
  | n + 1, d => match d with
    | .non => some .none
    | .bl b => some (.bool b)
    | .int i => some (.int i)
    | .str x => some (.str x)
    | .tup ds => (mapO (rpF W n) ds).map .tuple
    | d => match dkOf W d with
      | some kds => (mapO (fun kd : Key × D => (rpF W n kd.2).map fun p => (keyP kd.1, p)) kds).map .dict
      | none => match dtOf W d with
        | some kds => (mapO (fun kd : List Key × D => (rpF W n kd.2).map fun p => (PyData.tuple (kd.1.map keyP), p)) kds).map .dict
        | none => match lstOf W d with
          | some ds => (mapO (rpF W n) ds).map .list
          | none => none
/-- the dict of the modules is known -/
def ModK (K : PySem.W.Frag) : Prop := ∃ o, K.lookup sysModules = some o ∧ o.cls ≠ .type "list"
section
variable {X : Cx} {pins : List (Addr × Obj)} {σ : L2.St} {G H : Hp} {s : Shared} {W : Wd}
def RdsV (h : Heap) (v : V) (p : PyData) : Prop := ∀ u, L2.RelV v u → ∃ as, Reads h u p as ∧ sysModules ∉ as
theorem rds_all {f : D → Option PyData} (ih : ∀ d v p, f d = some p → IsD X.K G d v → RdsV s.heap v p) : ∀ {ds : List D} {vs : List V} {ps : List PyData} {us : List Value}, mapO f ds = some ps → IsDs X.K G ds vs → Vals vs us → ∃ as, ReadsAll s.heap us ps as ∧ sysModules ∉ as
  | [], _, _, _, e, h, r => by cases e; cases h; cases r; exact ⟨[], .nil, by simp⟩
  | d :: ds, _, _, _, e, h, r => by
    obtain ⟨y, ys, e1, e2, rfl⟩ := mapO_cons e
    obtain ⟨v, vs, rfl, h1, h2⟩ := h
    cases r with
    | cons r1 r2 =>
      obtain ⟨as, q1, q2⟩ := ih d v y e1 h1 _ r1
      obtain ⟨bs, q3, q4⟩ := rds_all ih e2 h2 r2
      exact ⟨as ++ bs, .cons q1 q3, by simp [q2, q4]⟩
theorem rds_ks {f : D → Option PyData} (ih : ∀ d v p, f d = some p → IsD X.K G d v → RdsV s.heap v p) {P : Program} {w : World} : ∀ {kds : List (Key × D)} {kvs : List (Key × V)} {kps : List (PyData × PyData)} {es : List DictEntry} {vs : List (Key × Value)}, mapO (fun kd : Key × D => (f kd.2).map fun p => (keyP kd.1, p)) kds = some kps → IsKs X.K G kds kvs → KV kvs vs → Pairs (mixKind P w) es vs →
    (∃ as, ReadsAll s.heap (es.map (·.key)) (kps.map (·.1)) as ∧ sysModules ∉ as) ∧ ∃ bs, ReadsAll s.heap (es.map (·.val)) (kps.map (·.2)) bs ∧ sysModules ∉ bs
  | [], _, _, _, _, e, h, r, p => by cases e; cases h; cases r; cases p; exact ⟨⟨[], .nil, by simp⟩, ⟨[], .nil, by simp⟩⟩
  | (k, d) :: ds, _, _, _, _, e, h, r, p => by
    obtain ⟨y, ys, e1, e2, rfl⟩ := mapO_cons e
    obtain ⟨v, vs, rfl, h1, h2⟩ := h
    cases r with
    | cons r1 r2 =>
      obtain ⟨g1, rv⟩ := r1
      cases p with
      | cons k1 k2 k3 =>
        obtain ⟨⟨as, a1, a2⟩, bs, b1, b2⟩ := rds_ks ih e2 h2 r2 k3
        cases e3 : f d with
        | none => rw [e3] at e1; cases e1
        | some p0 =>
          rw [e3] at e1
          cases e1
          dsimp only at g1 rv
          subst g1
          have k1' : keyIs _ _ = true := k1
          obtain ⟨cs, c1, c2⟩ := ih d v p0 e3 h1 _ rv
          refine ⟨⟨as, ReadsAll.cons (as := []) (bs := as) (key_reads k1') a1, a2⟩, cs ++ bs, ReadsAll.cons ?_ b1, by simp [c2, b2]⟩
          show Reads s.heap (DictEntry.val _) _ cs
          rw [k2]
          exact c1
theorem keys_reads {h : Heap} {P : Program} {w : World} : ∀ {ks : List Key} {us : List Value}, ItemsAre (mixKind P w) ks us → ReadsAll h us (ks.map keyP) []
  | [], _, r => by cases r; exact .nil
  | k :: ks, _, r => by
    cases r with
    | cons r1 r2 =>
      have k1 : keyIs _ _ = true := r1
      exact ReadsAll.cons (as := []) (bs := []) (key_reads k1) (keys_reads r2)
theorem rds_ts {f : D → Option PyData} (ih : ∀ d v p, f d = some p → IsD X.K G d v → RdsV s.heap v p) {P : Program} {w : World} : ∀ {kds : List (List Key × D)} {kvs : List (List Key × V)} {kps : List (PyData × PyData)} {xs : List (List Key × Addr × Value)}, mapO (fun kd : List Key × D => (f kd.2).map fun p => (PyData.tuple (kd.1.map keyP), p)) kds = some kps → IsTs X.K G kds kvs → KT H kvs xs → (∀ x ∈ xs, (tupleKind (mixKind P w)).is s.heap x.1 x.2.1) →
    (∃ as, ReadsAll s.heap (xs.map fun x => .ref x.2.1) (kps.map (·.1)) as ∧ sysModules ∉ as) ∧ ∃ bs, ReadsAll s.heap (xs.map (·.2.2)) (kps.map (·.2)) bs ∧ sysModules ∉ bs
  | [], _, _, _, e, h, r, p => by cases e; cases h; cases r; exact ⟨⟨[], .nil, by simp⟩, ⟨[], .nil, by simp⟩⟩
  | (k, d) :: ds, _, _, _, e, h, r, p => by
    obtain ⟨y, ys, e1, e2, rfl⟩ := mapO_cons e
    obtain ⟨v, vs, rfl, h1, h2⟩ := h
    cases r with
    | @cons _ x0 _ _ r1 r2 =>
      obtain ⟨g1, g2, rv⟩ := r1
      obtain ⟨⟨as, a1, a2⟩, bs, b1, b2⟩ := rds_ts ih e2 h2 r2 fun x hx => p x (List.mem_cons_of_mem _ hx)
      cases e3 : f d with
      | none => rw [e3] at e1; cases e1
      | some p0 =>
        rw [e3] at e1
        cases e1
        dsimp only at g1 rv
        subst g1
        obtain ⟨o, items, n, ho, hc, hd, hi⟩ : IsTupleKey (mixKind P w) s.heap x0.1 x0.2.1 := p x0 List.mem_cons_self
        obtain ⟨cs, c1, c2⟩ := ih d v p0 e3 h1 _ rv
        refine ⟨⟨as, ?_, a2⟩, cs ++ bs, ReadsAll.cons c1 b1, by simp [c2, b2]⟩
        exact ReadsAll.cons (as := []) (bs := as) (.tuple ho hc hd (keys_reads hi)) a1
theorem rpF_at (hm : ModK X.K) (R : Rel X.K G H W) (I : Inv X pins σ H s) : ∀ (n : Nat) (d : D) (v : V) (p : PyData), rpF W n d = some p → IsD X.K G d v → RdsV s.heap v p
  | 0, _, _, _, e, _ => by cases e
  | n + 1, d, v, p, e, h => by
    have ih := fun d v p => rpF_at hm R I n d v p
    have lists : ∀ {ds : List D} {a : Addr} {vs : List V} {ps : List PyData}, mapO (rpF W n) ds = some ps → H a = some (.lst vs) → IsDs X.K G ds vs → RdsV s.heap (.ref a) (.list ps) := by
      intro ds a vs ps e ha hs u r
      cases r
      obtain ⟨_, its, k, rv, ho⟩ : ObjOk X.prog X.w H s.heap a (.lst vs) := I.hok a _ ha
      obtain ⟨as, q1, q2⟩ := rds_all ih e hs rv
      obtain ⟨o, hk, hc⟩ := hm
      refine ⟨a :: as, .list ho rfl rfl (by simpa using q1), ?_⟩
      have := I.kIn _ _ hk
      rw [List.mem_cons]
      rintro (z | z)
      · rw [z, ho] at this
        cases this
        exact hc rfl
      · exact q2 z
    unfold rpF at e
    split at e
    · cases e; cases (show v = .non from h); intro u r; cases r; exact ⟨[], .none, by simp⟩
    · cases e; cases (show v = .bl _ from h); intro u r; cases r; exact ⟨[], .bool _, by simp⟩
    · cases e; cases (show v = .int _ from h); intro u r; obtain ⟨t, rfl⟩ := r; exact ⟨[], .int _ t, by simp⟩
    · cases e; cases (show v = .str _ from h); intro u r; obtain ⟨t, rfl⟩ := r; exact ⟨[], .str _ t, by simp⟩
    · rename_i ds
      obtain ⟨a, vs, rfl, e2, e3⟩ := h
      cases e4 : mapO (rpF W n) ds with
      | none => rw [e4] at e; cases e
      | some ps =>
        rw [e4] at e
        cases e
        intro u r
        cases r
        obtain ⟨_, its, rv, ⟨o, ho, hc, k, hd⟩⟩ : ObjOk X.prog X.w H s.heap a (.tup vs) := I.hok a _ ((R.st _ _ e2).eq rfl)
        obtain ⟨as, q1, q2⟩ := rds_all ih e4 e3 rv
        exact ⟨as, .tuple ho hc hd (by simpa using q1), q2⟩
    · split at e
      · rename_i kds ek
        obtain ⟨a, kvs, rfl, ha, hk⟩ := dkOf_at R h ek
        cases e4 : mapO (fun kd : Key × D => (rpF W n kd.2).map fun p => (keyP kd.1, p)) kds with
        | none => rw [e4] at e; cases e
        | some ps =>
          rw [e4] at e
          cases e
          intro u r
          cases r
          obtain ⟨_, ns, vs, rv, o, es, k, ho, hx, hd, _, hp, _⟩ := dk_rd I.hok ha
          obtain ⟨⟨as, a1, a2⟩, bs, b1, b2⟩ := rds_ks ih e4 hk rv hp
          refine ⟨a :: as ++ bs, .dict ho hx.1 hd a1 b1, ?_⟩
          have na : sysModules ≠ a := fun z => by rw [← z] at ns; exact nomatch ns
          simp [a2, b2, na]
      · split at e
        · rename_i kds ek
          obtain ⟨a, kvs, rfl, ha, hk⟩ := dtOf_at R h ek
          cases e4 : mapO (fun kd : List Key × D => (rpF W n kd.2).map fun p => (PyData.tuple (kd.1.map keyP), p)) kds with
          | none => rw [e4] at e; cases e
          | some ps =>
            rw [e4] at e
            cases e
            intro u r
            cases r
            obtain ⟨_, ns, xs, rv, o, es, k, ho, hx, hd, hes, hp, _⟩ := dt_rd I.hok ha
            obtain ⟨⟨as, a1, a2⟩, bs, b1, b2⟩ := rds_ts ih e4 hk rv hp
            refine ⟨a :: as ++ bs, .dict ho hx.1 hd ?_ ?_, ?_⟩
            · rw [hes, List.map_map]; exact a1
            · rw [hes, List.map_map]; exact b1
            · have na : sysModules ≠ a := fun z => by rw [← z] at ns; exact nomatch ns
              simp [a2, b2, na]
        · split at e
          · rename_i ds ek
            obtain ⟨a, vs, rfl, ha, hk⟩ := lstOf_at R h ek
            cases e4 : mapO (rpF W n) ds with
            | none => rw [e4] at e; cases e
            | some ps =>
              rw [e4] at e
              cases e
              exact lists e4 ha hk
          · cases e
end
def RpX (K : PySem.W.Frag) (H : Hp) (x : V) (p : PyData) : Prop := ∀ (X : Cx) (pins : List (Addr × Obj)) (σ : L2.St) (s : Shared), X.K = K → Inv X pins σ H s → RdsV s.heap x p
def rReprX (K : PySem.W.Frag) : List V → Hp → VK → Prop := fun xs H Q => ∃ x p, xs = [x] ∧ RpX K H x p ∧ p.showable = true ∧ p.depth ≤ 150 ∧ p.shown.length ≤ sizeLine ∧ Q (.str p.shown) H
theorem call_reprX {X : Cx} (hgd : X.A.guards = some []) (hu : X.A.units + 152 < cLine) : CallR X (.builtin "repr") (rReprX X.K) := by
  rintro pins s σ H xs us Q I r ⟨x, p, rfl, hp, sh, dp, sz, q⟩
  obtain ⟨u, rfl, ru⟩ := vals1 r
  obtain ⟨as, rd, nd⟩ := hp X pins σ s rfl I u ru
  have go : ∀ h' (t : Tok) tk, (∀ b o, s.heap.get? b = some o → h'.get? b = some o) → EP X pins σ Q (.str p.shown t) { s with heap := h', toks := tk } := fun h' t tk k => ⟨.str p.shown, H, I.kept k, ⟨t, rfl⟩, q⟩
  cases rd with
  | none => exact PySem.P.repr_of_none (go s.heap _ _ fun _ _ z => z)
  | bool b => exact PySem.P.repr_of_bool (by simpa [PyData.shown] using go s.heap s.toks _ fun _ _ z => z)
  | int i t => exact PySem.P.repr_of_int (by simpa [PyData.showable] using sh) (by simpa [PyData.shown] using go s.heap s.toks _ fun _ _ z => z)
  | str z t => exact PySem.P.repr_of_str (by simpa [PyData.shown] using go s.heap s.toks _ fun _ _ z => z) (by simpa [PyData.shown] using sz)
  | list a b c d => exact repr_of_reads' (.list a b c d) sh (fun _ => nd) hgd (by omega) (fun _ _ z => z) (fun h' t tk k => go h' t tk k) sz
  | tuple a b c d => exact repr_of_reads' (.tuple a b c d) sh (fun _ => nd) hgd (by omega) (fun _ _ z => z) (fun h' t tk k => go h' t tk k) sz
  | dict a b c d e => exact repr_of_reads' (.dict a b c d e) sh (fun _ => nd) hgd (by omega) (fun _ _ z => z) (fun h' t tk k => go h' t tk k) sz
def dReprX : RDC := fun ds W Q => ∃ n d p, ds = [d] ∧ rpF W n d = some p ∧ p.showable = true ∧ p.depth ≤ 150 ∧ p.shown.length ≤ sizeLine ∧ Q (.str p.shown) W
theorem sc_reprX {K : PySem.W.Frag} (hm : ModK K) : SimRC K (rReprX K) dReprX := fun G H W xs ds Q QD R hx h k => by
  obtain ⟨n, d, p, rfl, e, sh, dp, sz, q⟩ := h
  obtain ⟨v, rfl, hv⟩ := one_of hx
  refine ⟨v, p, rfl, ?_, sh, dp, sz, k.here (d := .str _) R rfl q⟩
  intro X pins σ s hK I
  subst hK
  exact rpF_at hm R I n d v p e hv
theorem go_reprX {W : Wd} {Q : DQ} {d : D} {p : PyData} (n : Nat) (h0 : rpF W n d = some p) (hs : Shp p) (hd : p.depth ≤ 150) (hw : p.weight ≤ 2 ^ 20) (h : Q (.str p.shown) W) : dReprX [d] W Q :=
  ⟨n, d, p, rfl, h0, hs.2, hd, PyData.shown_fits (B := 13) (by decide) (by decide) hs.1 hw, h⟩
theorem lkMod_ok {K : PySem.W.Frag} (h : lkMod K = true) : ModK K := by
  unfold lkMod at h
  split at h
  · rename_i o e; exact ⟨o, e, of_decide_eq_true h⟩
  · cases h
end DL

namespace DL
open PySem PySem.Spec PyProof.Rows L2
abbrev Tb := List (List Int × Int)
abbrev Md := List (Str × Tb)
def Tb.at (t : Tb) (r : List Int) : Int := ((List.find? (fun y => decide (y.1 = r)) t).map (·.2)).getD 0
def Md.tb (mt : Md) (f : Str) : Tb := ((List.find? (fun x => decide (x.1 = f)) mt).map (·.2)).getD []
mutual
def Trm.ev (mt : Md) (env : Int → Int) : Trm → Int
  | .var v => env v
  | .app f ts => (mt.tb f).at (Trm.evs mt env ts)
def Trm.evs (mt : Md) (env : Int → Int) : List Trm → List Int
  | [] => []
  | t :: ts => t.ev mt env :: Trm.evs mt env ts
end
abbrev Ev := List (Int × Int)
def Ev.fn (e : Ev) (v : Int) : Int := ((List.find? (fun x => decide (x.1 = v)) e).map (·.2)).getD 0
/-- what was there is there -/
def Grow (W W' : Wd) : Prop := ∀ l o, W l = some o → W' l = some o
theorem Grow.refl (W : Wd) : Grow W W := fun _ _ h => h
theorem Grow.trans {W W' W'' : Wd} (h : Grow W W') (h' : Grow W' W'') : Grow W W'' := fun l m e => h' l m (h l m e)
theorem Grow.set {W W' : Wd} {p : Addr} {o : MO} (h : Grow W W') (hp : W p = none) : Grow W (W'.set p o) := fun l m e => by
  rw [Wd.set_ne (fun z => by subst z; rw [hp] at e; cases e)]
  exact h l m e
theorem Grow.del {W W' : Wd} {p : Addr} (h : Grow W W') (hp : W p = none) : Grow W (W'.del p) := fun l m e => by
  have ne : l ≠ p := fun z => by subst z; rw [hp] at e; cases e
  simp only [Wd.del]; rw [if_neg ne]
  exact h l m e
theorem Grow.none {W W' : Wd} {p : Addr} (h : Grow W W') (hp : W' p = none) : W p = none := by
  cases e : W p with
  | none => rfl
  | some o => rw [h p o e] at hp; cases hp
theorem ar_uniq {f : Str} {a b : Nat} : ∀ {ops : Sig}, (ops.map Prod.fst).Nodup → (f, a) ∈ ops → (f, b) ∈ ops → a = b
  | [], _, h, _ => by cases h
  | x :: ops, nd, h, h' => by
    rw [List.map_cons, List.nodup_cons] at nd
    rcases List.mem_cons.mp h with e | h
    · rcases List.mem_cons.mp h' with e' | h'
      · have := e.trans e'.symm
        exact (Prod.mk.inj this).2
      · exact absurd (List.mem_map.mpr ⟨_, h', rfl⟩) (by rw [← e] at nd; exact nd.1)
    · rcases List.mem_cons.mp h' with e' | h'
      · exact absurd (List.mem_map.mpr ⟨_, h, rfl⟩) (by rw [← e'] at nd; exact nd.1)
      · exact ar_uniq nd.2 h h'
end DL

namespace DL
open PySem PySem.Spec PyProof.Rows L2
theorem nub_nodup : ∀ (ns acc : List Int), acc.Nodup → (nub acc ns).Nodup
  | [], acc, h => h
  | n :: ns, acc, h => by
    rw [nub]
    split
    · exact nub_nodup ns acc h
    · rename_i hn
      refine nub_nodup ns _ ?_
      rw [List.nodup_append]
      refine ⟨h, by simp, fun a ha b hb => ?_⟩
      rw [List.mem_singleton] at hb
      intro z
      exact hn (by rw [← hb, ← z]; exact ha)
theorem nodup_le : ∀ (c : Nat) {l : List Int}, l.Nodup → (∀ x ∈ l, 0 ≤ x ∧ x < (c : Int)) → l.length ≤ c
  | 0, l, _, h => by
    cases l with
    | nil => simp
    | cons a l => have := h a List.mem_cons_self; omega
  | c + 1, l, hn, h => by
    have ih := nodup_le c (l := l.erase (c : Int)) (hn.erase _) fun x hx => by
      have h1 := (hn.mem_erase_iff).mp hx
      have := h x h1.2
      have := h1.1
      omega
    rw [List.length_erase] at ih
    split at ih <;> omega
theorem vars_nodup (t : Trm) : t.vars.Nodup := nub_nodup _ _ (by simp)
end DL

namespace DL
open PySem PySem.Spec PyProof.Rows L2
section
variable {X : Cx} {k : Nat} {f : Addr} {fd : FuncData} {ps : List Str} {sp : Sp}
theorem GR.low {k : Nat} {A : Around} (r : GR (k + 1) A) : GR k A.in1 := ⟨r.rm.in1, r.gd⟩
/-- the callee runs below a built-in -/
theorem fnG_at {A1 : Around} {pins : List (Addr × Obj)} {σ : L2.St} {H : Hp} {s : Shared} {Q : VK} {us : List Value} {vs : List V} (F : FnG X.prog X.w X.K X.mg X.base CX0 k f fd ps sp) (hA : A1.frames = X.A.frames) (hr : GR k A1) (hb : Binds X.K fd ps [])
    (I : Inv X pins σ H s) (r : Vals vs us) (h : sp vs H Q E0) : wpAny (model X.prog X.w) A1 (call (.ref f) us) (fun u s' => CE X.stack X.prog X.w H s Q u s') X.xe s := by
  have e0 : Env0 X.prog X.w X.K X.mg X.base A1 X.stack s H := by
    have e := I.env0
    exact ⟨by rw [hA]; exact e.frames, e.mod, e.bs, e.bsz, e.funs, e.frf, e.hok, e.bare⟩
  have b := hb s us I.kIn (by rw [List.append_nil, ← r.length]; exact F.len _ _ _ _ h)
  rw [List.append_nil] at b
  refine wpAny_call (codeAny_mono (F.go hr e0 b r h) fun res s' z => ?_)
  cases res with
  | error err => exact z.elim
  | ok fl => cases fl with
    | ret u => exact z
    | next => exact z.elim
    | brk => exact z.elim
    | cont => exact z.elim
end
def dLenO (c : Str) (sp : SpD) : RDC := fun ds W Q => ∃ x fs, ds = [x] ∧ objOf W x = some (c, fs) ∧ sp [x] W (fun d W' => ∃ n : Nat, d = .int n ∧ n ≤ 16777216 ∧ Q (.int n) W') ED0
theorem go_lenO {c : Str} {sp : SpD} {x : D} {fs : List (Str × D)} {W : Wd} {Q : DQ} (h0 : objOf W x = some (c, fs)) (h : sp [x] W (fun d W' => ∃ n : Nat, d = .int n ∧ n ≤ 16777216 ∧ Q (.int n) W') ED0) : dLenO c sp [x] W Q := ⟨x, fs, rfl, h0, h⟩
def rInO (K : PySem.W.Frag) (C : Addr) (sp : Sp) (neg : Bool) : R2 := fun x y H Q => ∃ a dx fs, y = .ref a ∧ H a = some (.ins C dx fs) ∧ sp [.ref a, x] H (fun v H' => ∃ b, v = .bl b ∧ Q (.bl (if neg = true then !b else b)) H') E0
section
variable {X : Cx} {C fa : Addr} {k : Nat} {ps : List Str} {sp : SpD}
theorem inO_run {pins : List (Addr × Obj)} {σ : L2.St} {H : Hp} {s : Shared} {Q : VK} {x : V} {v : Value} {a : Addr} {neg : Bool} (g : FkM X.prog X.w X.K X.mg X.base CX0 k fa ps sp) (hr : Room k X.A) (hgd : X.A.guards = some []) (I : Inv X pins σ H s) (rx : L2.RelV x v)
    (q : liftSp X.K sp [.ref a, x] H (fun v H' => ∃ b, v = .bl b ∧ Q (.bl (if neg = true then !b else b)) H') E0) : wpAny (model X.prog X.w) X.A (call (.ref fa) [.ref a, v]) (fun r s' => wpAny (model X.prog X.w) X.A (truthy r) (fun b => EP X pins σ Q (.bool (if neg = true then !b else b))) X.xe s') X.xe s := by
  obtain ⟨fd, F, b⟩ := g.ex
  refine wpAny_mono (fnG_at (vs := [V.ref a, x]) F rfl ⟨hr, hgd⟩ b I (.cons rfl (.cons rx .nil)) q) (fun u s' z => ?_) fun _ _ z => z
  obtain ⟨v, H', I', rv, b, rfl, q'⟩ := I.after z
  cases rv
  exact wpAny_pure ⟨.bl (if neg = true then !b else b), H', I', rfl, q'⟩
theorem op_inO (M : Meth X.K C "__contains__" fa) (g : FkM X.prog X.w X.K X.mg X.base CX0 k fa ps sp) (hr : Room k X.A) (hgd : X.A.guards = some []) : OpR X (compareOp .In) (rInO X.K C (liftSp X.K sp) false) := by
  intro pins s σ H x y v u Q I rx ry h
  obtain ⟨a, dx, fs, rfl, e2, q⟩ := h
  obtain rfl : u = Value.ref a := ry
  obtain ⟨mA, J, _⟩ := ins_get I.hok e2
  obtain ⟨od, J, _⟩ := J.look
  obtain ⟨m, hF⟩ := I.fr
  exact PySem.W.in_K hF I.ok.mod.kin J M.at_ M.fn (inO_run (neg := false) g hr hgd I rx q)
end
theorem inK {X : Cx} (K : PySem.W.Frag) {c : Str} {fa : Addr} {k : Nat} {ps : List Str} {sp : SpD} (M : Meth K (He.ga K c) "__contains__" fa) (g : FkM X.prog X.w K X.mg X.base CX0 k fa ps sp) (hr : Room k X.A) (hgd : X.A.guards = some []) (hK : X.K = K := by rfl) :
    OpR X (compareOp .In) (rInO K (He.ga K c) (liftSp K sp) false) := by subst hK; exact op_inO M g hr hgd
def dInO (c : Str) (sp : SpD) (neg : Bool) : RD2 := fun x y W Q => ∃ fs, objOf W y = some (c, fs) ∧ sp [y, x] W (fun d W' => ∃ b, d = .bl b ∧ Q (.bl (if neg = true then !b else b)) W') ED0
theorem go_inOb {c : Str} {sp : SpD} {x y : D} {fs : List (Str × D)} {W : Wd} {Q : DQ} (h0 : objOf W y = some (c, fs)) (h : sp [y, x] W (fun d W' => ∃ b, d = .bl b ∧ Q (.bl b) W') ED0) : dInO c sp false x y W Q := ⟨fs, h0, by simpa using h⟩
theorem go_ninOb {c : Str} {sp : SpD} {x y : D} {fs : List (Str × D)} {W : Wd} {Q : DQ} (h0 : objOf W y = some (c, fs)) (h : sp [y, x] W (fun d W' => ∃ b, d = .bl b ∧ Q (.bl (!b)) W') ED0) : dInO c sp true x y W Q := ⟨fs, h0, by simpa using h⟩
def spIter (K : PySem.W.Frag) (C : Addr) (f : Str) (s : Shared) : Sp := fun vs H Q _ => ∃ a dx fs l zs, vs = [.ref a] ∧ H a = some (.ins C dx fs) ∧ fs.lookup f = some (.ref l) ∧ SqL K H l zs ∧ ∀ it, H it = none → s.heap.objs.size ≤ it → Q (.ref it) (upd H it (ItO l it 0))
/-- o's own __iter__ gives iter(o.f) -/
structure OwnIt (P : Program) (w : World) (K : PySem.W.Frag) (mg : Str → Option Value) (base : Heap) (k : Nat) (c f : Str) : Prop where
  ex : ∃ fa, Meth K (He.ga K c) "__iter__" fa ∧ ∀ {A : Around} {outer : List Env} {s : Shared} {H : Hp} {a : Addr} {Q : VK}, GR k A → Env0 P w K mg base A outer s H → K.In s.heap → spIter K (He.ga K c) f s [.ref a] H Q E0 → codeAny (model P w) A (.call (.ref fa) ⟨[.ref a], []⟩) (CR CX0 outer P w H s Q E0) s
theorem OwnIt.mono {P : Program} {w : World} {K : PySem.W.Frag} {mg : Str → Option Value} {base : Heap} {j k : Nat} {c f : Str} (g : OwnIt P w K mg base j c f) (h : j ≤ k) : OwnIt P w K mg base k c f := by
  obtain ⟨fa, M, F⟩ := g.ex
  exact ⟨fa, M, fun r e X q => F (r.mono h) e X q⟩
section
variable {X : Cx} {G0 : Hp} {tg e : Expr} {te : TE} {ae : AE} {k : Nat} {c f : Str}
def aiOwn (c f : Str) (a : AE) : AI := fun δ W N => a δ W fun x W1 => ∃ fs d ds, objOf W1 x = some (c, fs) ∧ fs.lookup f = some d ∧ lstRd W1 d = some ds ∧ N ds (okOf d ds) W1
end
theorem go_own {c f : Str} {a : AE} {δ : Sl} {W : Wd} {N : List D → (Wd → Prop) → Wd → Prop} (h : a δ W fun x W1 => ∃ fs d ds, objOf W1 x = some (c, fs) ∧ fs.lookup f = some d ∧ lstRd W1 d = some ds ∧ N ds (okOf d ds) W1) : aiOwn c f a δ W N := h
def fl0 (ops : Sig) : List Bool := ops.map fun _ => false
theorem fl0_len (ops : Sig) : (fl0 ops).length = ops.length := List.length_map ..
abbrev sg0 (ops : Sig) : SgS := mkS ops (fl0 ops)
theorem sg0_find {ops : Sig} (nd : (ops.map Prod.fst).Nodup) {f : Str} {m : Nat} (h : (f, m) ∈ ops) : (sg0 ops).find f = some ((m : Int), false) := by
  induction ops with
  | nil => cases h
  | cons x ops ih =>
    obtain ⟨g, n⟩ := x
    rw [List.map_cons, List.nodup_cons] at nd
    show ((List.find? _ ((g, (n : Int), false) :: sg0 ops)).map (·.2)) = _
    rw [List.find?_cons]
    rcases List.mem_cons.mp h with e | h
    · cases e
      simp
    · have ne : g ≠ f := fun e => nd.1 (by rw [e]; exact List.mem_map.mpr ⟨_, h, rfl⟩)
      rw [decide_eq_false ne]
      exact ih nd.2 h
theorem sg0_names (ops : Sig) : (sg0 ops).names = ops.map Prod.fst := mkS_names (fl0_len ops)
theorem Wf.names {ops : Sig} {n : Int} {t : Trm} (h : Wf ops n t) : ∀ f, .f f ∈ t.syms → f ∈ ops.map Prod.fst := by
  induction h with
  | var => intro f hf; simp [Trm.syms] at hf
  | @app g ts h0 _ ih =>
    intro f hf
    rw [Trm.syms] at hf
    rcases List.mem_cons.mp hf with e | hf
    · injection e with e; rw [e]; exact List.mem_map_of_mem (f := Prod.fst) h0
    · have : ∀ us : List Trm, (∀ u ∈ us, ∀ f, .f f ∈ u.syms → f ∈ ops.map Prod.fst) → .f f ∈ Trm.symss us → f ∈ ops.map Prod.fst := by
        intro us
        induction us with
        | nil => intro _ z; cases z
        | cons u us ih2 =>
          intro hu z
          rw [Trm.symss] at z
          rcases List.mem_append.mp z with z | z
          · exact hu u List.mem_cons_self f z
          · exact ih2 (fun v hv => hu v (List.mem_cons_of_mem _ hv)) z
      exact this ts ih hf
theorem lcG_inv {own : Bool} {g : AG} {t : AT} {e : AE} {ok : Wd → Prop} {δ : Sl} {items : List D} {W : Wd} {Q : DQ} (I : List D → List D → Wd → Prop) (h0 : I items [] W) (hz : items.length ≤ sizeLine) (hok : ∀ ds acc W' L, I ds acc W' → W' L = none → ok (W'.set L (.lst acc)))
    (hs : ∀ d ds acc W' (L : Addr) (Q' : DQ) (P : Wd → Prop), I (d :: ds) acc W' → W' L = none → (∀ y W'', W'' L = none → I ds (acc ++ [y]) W'' → Q' y (W''.set L (.lst acc))) → (∀ W'', W'' L = none → I ds acc W'' → P (W''.set L (.lst acc))) → g d δ (W'.set L (.lst acc)) fun δ' W1 => t δ' W1 fun k W2 => if k = true then e δ' W2 Q' else P W2)
    (hd : ∀ acc W', I [] acc W' → if own = true then ∀ p, W' p = none → Q (.ptr p) (W'.set p (.lst acc)) else Q (.lst acc) W') : lcE own g t e ok δ items W Q := by
  intro L hL
  have go : ∀ (ds acc : List D) (W' : Wd), W' L = none → acc.length + ds.length ≤ sizeLine → I ds acc W' → lcL g t e ok δ L (fun W2 => ∃ acc, W2 L = some (.lst acc) ∧ (if own = true then Q (.ptr L) W2 else Q (.lst acc) (W2.del L))) ds (W'.set L (.lst acc)) := by
    intro ds
    induction ds with
    | nil =>
      intro acc W' h1 _ h2
      refine ⟨hok _ _ _ _ h2 h1, acc, Wd.set_same _ _ _, ?_⟩
      have q := hd acc W' h2
      cases own with
      | true =>
        rw [if_pos rfl] at q ⊢
        exact q L h1
      | false =>
        rw [if_neg (by decide)] at q ⊢
        rw [Wd.del_set h1]
        exact q
    | cons d ds ih =>
      intro acc W' h1 hz h2
      rw [List.length_cons] at hz
      refine ⟨hok _ _ _ _ h2 h1, ?_⟩
      refine hs d ds acc W' L (fun y W3 => ∃ acc, W3 L = some (.lst acc) ∧ acc.length < sizeLine ∧ lcL g t e ok δ L _ ds (W3.set L (.lst (acc ++ [y])))) (fun W2 => lcL g t e ok δ L _ ds W2) h2 h1 (fun y W'' h3 q => ⟨acc, Wd.set_same _ _ _, by omega, ?_⟩) (fun W'' h3 q => ?_)
      · rw [Wd.set_set]
        exact ih _ _ h3 (by rw [List.length_append, List.length_singleton]; omega) q
      · exact ih _ _ h3 (by omega) q
  exact go items [] W hL (by simpa using hz) h0
theorem lcG_pure {own : Bool} {α : Type} {g : AG} {t : AT} {e : AE} {ok : Wd → Prop} {δ : Sl} {W : Wd} {Q : DQ} (a f : α → D) (b : α → Bool) (xs : List α) (hz : xs.length ≤ sizeLine) (hok : ∀ L m, W L = none → ok (W.set L m))
    (he : ∀ x ∈ xs, ∀ (W' : Wd) (Q' : DQ) (P : Wd → Prop), (b x = true → Q' (f x) W') → (b x = false → P W') → g (a x) δ W' fun δ' W1 => t δ' W1 fun k W2 => if k = true then e δ' W2 Q' else P W2)
    (hQ : if own = true then ∀ p, W p = none → Q (.ptr p) (W.set p (.lst ((xs.filter b).map f))) else Q (.lst ((xs.filter b).map f)) W) : lcE own g t e ok δ (xs.map a) W Q := by
  refine lcG_inv (fun ds acc W' => ∃ us vs : List α, W' = W ∧ ds = us.map a ∧ acc = (vs.filter b).map f ∧ vs ++ us = xs) ⟨xs, [], rfl, rfl, rfl, rfl⟩ (by rw [List.length_map]; exact hz) ?_ ?_ ?_
  · rintro ds acc W' L ⟨us, vs, rfl, _⟩ hL
    exact hok L _ hL
  · rintro d ds acc W' L Q' P ⟨us, vs, rfl, e1, rfl, e2⟩ hL k1 k2
    cases us with
    | nil => cases e1
    | cons u us =>
      rw [List.map_cons] at e1
      cases e1
      refine he u (by rw [← e2]; simp) _ Q' P (fun hb => ?_) (fun hb => ?_)
      · exact k1 _ _ hL ⟨us, vs ++ [u], rfl, rfl, by rw [List.filter_append]; simp [hb], by rw [← e2]; simp⟩
      · exact k2 _ hL ⟨us, vs ++ [u], rfl, rfl, by rw [List.filter_append]; simp [hb], by rw [← e2]; simp⟩
  · rintro acc W' ⟨us, vs, rfl, e1, rfl, e2⟩
    cases us with
    | cons u us => cases e1
    | nil => rw [List.append_nil] at e2; rw [e2]; exact hQ
end DL

namespace DL
open PySem PySem.Spec PyProof.Rows L2
/-- what the text says of such a class -/
structure SupF (P : Program) (K : PySem.W.Frag) (C : Addr) (f : Str) (params : Arguments) (body : List Stmt) (scope : Scope) : Prop where
  oex : OexC K C
  noF : PySem.W.findIn K (.ref C) f = some none
  ini : ∃ fI nm qual oc od osl kV doc pm an tcl cda cc ccl cdd ccs vs file tf cl cld csl,
    PySem.W.findIn K (.ref C) "__init__" = some (some (.ref fI)) ∧ PySem.W.typeIn K (.ref fI) = some (.type "function") ∧
    K.lookup fI = some ⟨oc, od, .func (PySem.W.fnX nm qual params body scope [("__class__", cc)] .none kV doc pm an (.ref cda) tcl), osl⟩ ∧ PySem.W.codeIn K (.ref cda) qual = true ∧
    K.lookup cda = some ⟨ccl, cdd, .fields vs, ccs⟩ ∧ vs[2]? = some (.str file tf) ∧ ((P.main.file : Str) == file) = true ∧
    K.lookup cc = some ⟨cl, cld, .cell (some (.ref C)), csl⟩
  mro : PySem.W.mroIn K C (.ref C) = some true
  sup : PySem.W.ks_superIn K C C "__init__" = some (some (.builtin "ValueError.__init__"))
  sve : PySem.W.subIn K (.ref C) (.type "ValueError") = some true
  opq : PySem.W.nsIn K cStatics "thirdparty.any" = some none
  top : (P.main.scope.names.lookup ("super" : Str)).isSome = false
section
variable {P : Program} {w : World} {A : Around} {h : Heap} {g : Array GenState} {d : Drawn} {t : Nat} {os : OsState} {E : Value → Shared → Prop}
variable {nm q : Str} {C N : Addr} {bs bm : List Value} {hdct : Bool} {sn : List Str} {sub : List Value} {ab : Bool} {col : Option Bool} {dd : Option Addr} {k0 k1 k2 k3 k5 : Option Value}
open PySem.W in
/-- super().__init__(..) called -/
theorem call_mw {u e t0 : Addr} {rest : List Value} {Q : Value → Shared → Prop} (hC : h.get? C = some (excClassObj nm q C N bs bm hdct sn sub ab col dd k0 k1 k2 k3 k5 "ValueError.__new__")) (he : h.get? e = some (HandSPX.excO C t0)) (hu : h.get? u = some (kxs_mw "ValueError.__init__" e)) (hrest : rest.length ≤ sizeLine)
    (hq : ∀ h' t1, (∀ b o, b ≠ e → h.get? b = some o → h'.get? b = some o) → h'.get? e = some (HandSPX.excO C t1) → Q .none ⟨h', g, d, t, os⟩) :
    wpAny (model P w) A (call (.ref u) rest) Q E ⟨h, g, d, t, os⟩ := by
  refine wpAny_call (codeAny_of_tree ?_)
  show wpAny _ A.in1 (callAny (.ref u) ⟨rest, []⟩) _ _ _
  simp only [callAny]
  refine wpAny_bind (wpAny_load hu ?_)
  simp only [kxs_mw, show (Value.type "method-wrapper" == Value.type "method" || Value.type "method-wrapper" == Value.type "builtin_function_or_method" || Value.type "method-wrapper" == Value.type "method-wrapper") = true by decide, if_true]
  refine W.KFB.if_so (by decide) ?_
  refine wpAny_bind (ESX.check_bound PySem.F.excBase_ValueError hC he rfl ?_)
  refine wpAny_bind (wpAny_pure (wpAny_pure ?_))
  refine ⟨Code.quiet_builtin _ (by decide +kernel), codeAny_builtin PySem.F.excBase_ValueError.initEntry ?_⟩
  rw [Around.under_plainId PySem.F.excBase_ValueError.init.plain _]
  wp_walk
  refine hq _ h.objs.size (fun b o hb ho => ?_) ?_
  · rw [Heap.get?_update_other _ _ (Ne.symm hb)]
    exact Heap.get?_push_of_some _ ho
  · rw [Heap.get?_update_self _ (Heap.get?_push_of_some _ he) rfl]
    rfl
end
section
variable {P : Program} {w : World} {A : Around} {R : Result → Shared → Prop} {K : PySem.W.Frag} {C fI cc cda a t0 : Addr} {nm qual f tx : Str} {params : Arguments} {scope : Scope} {oc : Value} {od : Option Addr} {osl : Array (Option Value)} {dV kV doc pm tcl u : Value} {an : Option Addr}
  {p0 p1 p2 p3 p4 p5 p6 p7 p8 p9 : PySem.Pos} {jj : Nat} {body : List Stmt} {mg mb : Str → Option Value} {ar : Arg} {vs : Array Value} {file : Str} {tf : Tok} {ccl cl : Value} {cdd cld : Option Addr} {ccs csl : Array (Option Value)}
open PySem.W in
theorem sup_run {s : Shared} (hbody : body = [.Expr (.Call (.Attribute (.Call (.Name "super" p0) [] [] p1) "__init__" p2) [.Constant (.str tx) jj p3] [] p4) p5, .Assign [.Attribute (.Name "self" p6) f p7] (.Name f p8) p9])
    (X : K.In s.heap) (hmg : s.heap.Ns mainGlobals mg) (hsu : mg "super" = none) (hmb : s.heap.Ns builtinsNs mb) (hb : mb "super" = some (.type "super"))
    (T : OexC K C) (hno : findIn K (.ref C) f = some none) (ho : K.lookup fI = some ⟨oc, od, .func (fnX nm qual params body scope [("__class__", cc)] dV kV doc pm an (.ref cda) tcl), osl⟩) (hcd : codeIn K (.ref cda) qual = true)
    (hcode : K.lookup cda = some ⟨ccl, cdd, .fields vs, ccs⟩) (hvs : vs[2]? = some (.str file tf)) (hfile : ((P.main.file : Str) == file) = true) (hcell : K.lookup cc = some ⟨cl, cld, .cell (some (.ref C)), csl⟩)
    (hm : ks_superIn K C C "__init__" = some (some (.builtin "ValueError.__init__"))) (hmr : mroIn K C (.ref C) = some true) (hsv : subIn K (.ref C) (.type "ValueError") = some true) (hop : nsIn K cStatics "thirdparty.any" = some none) (htop : (P.main.scope.names.lookup ("super" : Str)).isSome = false)
    (ha : s.heap.get? a = some (HandSPX.excO C t0)) (hKa : K.lookup a = none) (hroom : A.depth < recursionLimit) (hlim : s.heap.NoLimit) (hbind : BindsTo s (fnX nm qual params body scope [("__class__", cc)] dV kV doc pm an (.ref cda) tcl) ⟨[.ref a, u], []⟩ [("self", .ref a), (f, u)])
    (hp : (params.posonlyargs ++ params.args).head? = some ar) (har : ar.arg = "self") (hfs : f ≠ "self") (hfd : (f == ("__debug__" : Str)) = false) (hk : scope.kind = .function) (hco : scope.isCoroutine = false) (hgen : scope.isGenerator = false) (hcells : ∀ x ∈ scope.names, x.2 ≠ .cell)
    (l1 : scope.names.lookup ("self" : Str) = some .local) (l2 : scope.names.lookup f = some .local) (l3 : scope.names.lookup ("super" : Str) = some .globalImplicit) (l4 : scope.names.lookup ("__class__" : Str) = some .free)
    {pl : Sem Bool} (he : ∀ L, eval (.Call (.Attribute (.Call (.Name "super" p0) [] [] p1) "__init__" p2) [.Constant (.str tx) jj p3] [] p4) (callEnv (fnX nm qual params body scope [("__class__", cc)] dV kV doc pm an (.ref cda) tcl) L fI) = (do
      let ov ← attributeBase (.Call (.Name "super" p0) [] [] p1) "__init__" (callEnv (fnX nm qual params body scope [("__class__", cc)] dV kV doc pm an (.ref cda) tcl) L fI) (eval (.Call (.Name "super" p0) [] [] p1) (callEnv (fnX nm qual params body scope [("__class__", cc)] dV kV doc pm an (.ref cda) tcl) L fI))
      standAt p2.atName
      let (f, first) ← holding [ov] (getMethod ov "__init__" pl)
      callWith p4 f first (backTo p4 (starEach [.Constant (.str tx) jj p3] (callEnv (fnX nm qual params body scope [("__class__", cc)] dV kV doc pm an (.ref cda) tcl) L fI))) []))
    (hq : ∀ h' tk' dx fv, (∀ b o, b ≠ a → s.heap.get? b = some o → h'.get? b = some o) → s.heap.objs.size ≤ dx → dx ≠ a → h'.get? a = some { cls := .ref C, dict := some dx, data := .fields #[.ref fv, .none, .none, .none, .bool false, .none] } →
      h'.Ns1 dx (fun y => if y = f then some u else none) → R (.ok (.ret .none)) { s with heap := h', toks := tk' }) :
    codeAny (model P w) A (.call (.ref fI) ⟨[.ref a, u], []⟩) R s := by
  subst hbody
  have boot : bootBuiltins "super" = some (.type "super") := by decide +kernel
  obtain ⟨nm2, q2, N, bs, bm, sn, sub, ab, col, dd, k0, k1, k2, k3, k5, hC, hbm⟩ := T.cls
  have hcl : clsIn K C = some { name := nm2, bases := bs, mro := .ref C :: bm, ns := N, qualname := q2, hasDict := true, slotNames := sn, subclasses := sub, abstract := ab, collection := col, hasDel := false } := by unfold clsIn; rw [hC] <;> rfl
  refine ks_codeAny_call_defAt (fd := fnX nm qual params _ scope [("__class__", cc)] dV kV doc pm an (.ref cda) tcl) (binds := [("self", .ref a), (f, u)]) hroom (X _ _ ho) rfl hlim (codeRec_of X hcd) rfl hbind hcells (fun z hz => ?_) (fun h₁ hns hk₁ => ?_) hco hgen hk
  · simp only [List.mem_cons, List.not_mem_nil, or_false] at hz
    rcases hz with rfl | rfl
    · exact l1
    · exact l2
  have X1 : K.In h₁ := X.keeps hk₁
  have e1 : (fun x => List.lookup x (List.reverse [(("self" : Str), Value.ref a), (f, u)])) ("self" : Str) = some (.ref a) := by
    show List.lookup ("self" : Str) [(f, u), ("self", Value.ref a)] = _
    rw [List.lookup_cons, show (("self" : Str) == f) = false from by simpa using Ne.symm hfs]
    simp
  have e2 : (fun x => List.lookup x (List.reverse [(("self" : Str), Value.ref a), (f, u)])) f = some u := by
    show List.lookup f [(f, u), ("self", Value.ref a)] = _
    simp
  obtain ⟨h0, g, dr, tk, os⟩ := s
  dsimp only at hk₁ hns X hmg hmb ha hlim hq ⊢
  refine ks_wpAt_execs_cons (ks_wpAt_Expr_any (ks_wpAt_MethodCall ?_ (he _)) (hi := by unfold interactive callEnv newEnv; simp [hk]))
  refine ks_wpAt_super_base (attr := "__init__") l3 l4 (by decide) rfl (X1 _ _ ho) rfl hp rfl (X1 _ _ hcode) rfl hvs hfile htop ?_
  refine ks_loadName_global hk l3 (Calls.loadGlobal_builtin (hmg.keeps hk₁) hsu (hmb.keeps hk₁) hb ⟨rfl, ?_⟩)
  refine wpAny_loadName_free hk l4 rfl ⟨_, X1 _ _ hcell, rfl⟩ ?_
  rw [har]
  refine wpAny_loadName_local hk l1 hns e1 ?_
  refine ks_wpAny_isType_cls (X1 _ _ hC) rfl ⟨rfl, ?_⟩
  refine ks_wpAny_call_super (X1 _ _ hC) rfl (hk₁ _ _ ha) rfl (fun c e => ?_) (looks_mroIn X1 hmr) (fun h₂ e₂ k₂ => ?_)
  · cases e
  have X2 : K.In h₂ := X1.keeps k₂
  have a2 := k₂ _ _ (hk₁ _ _ ha)
  have I2 : InstAt h₂ a (HandSPX.excO C t0) C none := ⟨a2, rfl, rfl, trivial⟩
  have hI : Looks (model P w) h₂ (isInstance (.ref a) (.type "ValueError")) true := I2.type.andThen (looks_subIn X2 hsv)
  have hm' := hm
  unfold ks_superIn at hm'
  rw [hcl] at hm'
  refine kxs_getMethod kxs_ValueError e₂ (looks_opaque X2 hop) (l₀ := .ref C :: bm) ?_ rfl X2 hm' hI (ks_ne X2 I2 hcl) (by decide) ?_
  · exact fun A Q E s k q => wpAny_bind ((looks_clsIn X2 hcl) A _ E s k (wpAny_pure q))
  have up3 : ∀ b o, h₂.get? b = some o → (h₂.push (kxs_mw "ValueError.__init__" a)).get? b = some o := fun b o e => Heap.get?_push_of_some _ e
  have m3 : (h₂.push (kxs_mw "ValueError.__init__" a)).get? h₂.objs.size = some (kxs_mw "ValueError.__init__" a) := Heap.get?_push_at rfl rfl
  show wpAny _ _ (callWith _ (.ref h₂.objs.size) [] (backTo _ (starEach [_] _)) []) _ _ _
  refine kxs_callWith (i := "ValueError.__init__") (x := a) (by rfl) (Calls.evalArgs_plain (Calls.spliced_cons (wpAny_Constant_str (k := jj) (pos := p3) ?_)))
  refine Calls.spliced_nil ⟨m3, ?_⟩
  refine call_mw (C := C) (up3 _ _ (X2 _ _ hC)) (up3 _ _ a2) m3 (by rw [sizeLine_eq]; show 1 ≤ 16777216; decide) (fun h₄ t1 k₄ a4 => ?_)
  have old4 : ∀ b o, b ≠ a → h0.get? b = some o → h₄.get? b = some o := fun b o hb e => k₄ b o hb (up3 _ _ (k₂ _ _ (hk₁ _ _ e)))
  have X4 : K.In h₄ := fun b o e => by
    have hb : b ≠ a := fun z => by rw [z, hKa] at e; cases e
    exact old4 b o hb (X b o e)
  have hns4 : h₄.Ns h0.objs.size (fun x => List.lookup x (List.reverse [(("self" : Str), Value.ref a), (f, u)])) := hns.at fun o e => k₄ _ _ (Nat.ne_of_gt (Heap.lt_size ha)) (up3 _ _ (k₂ _ _ e))
  have le4 : h0.objs.size ≤ h₄.objs.size := by
    obtain ⟨o, es, ep, e, _⟩ := hns4
    exact Nat.le_of_lt (Heap.lt_size e)
  show PySem.wpAt _ _ _ (execs [_] _) _ _ _
  refine ks_wpAt_execs_cons (wpAt_of_wpAny (plainObj_wpAny_Assign_Attribute ?_))
  refine wpAny_Name (wpAny_loadName_local hk l2 hns4 e2 ?_) hfd
  refine wpAny_Name (wpAny_loadName_local hk l1 hns4 e1 ?_) (by decide)
  refine set_plain X4 (ox := HandSPX.excO C t1) (od := none) ⟨a4, rfl, rfl, trivial⟩ T.sa ?_
  refine HandSPX.exc_osa X4 a4 hcl (show HandSPX.refsVE (.ref C :: bm) = true from hbm) rfl hno (fun h' tk' dx k dn dne hx hn => ?_)
  show PySem.wpAt _ _ _ (execs [] _) _ _ _
  refine wpAt_of_wpAny (wpAny_pure ?_)
  exact hq h' tk' dx t1 (fun b o hb e => k b o hb (old4 b o hb e)) (Nat.le_trans le4 dn) dne hx hn
end
/-- what the body, the parameters and the scope of such an __init__ are -/
structure SupB (f : Str) (params : Arguments) (body : List Stmt) (scope : Scope) : Prop where
  bind : ∀ (nm qual : Str) (cl : List (Str × Addr)) (kV doc pm : Value) (an : Option Addr) (cdv ct x y : Value), bindArgs (PySem.W.fnX nm qual params body scope cl .none kV doc pm an cdv ct) ⟨[x, y], []⟩ = pure [(("self" : Str), x), (f, y)]
  par : ∃ ar, (params.posonlyargs ++ params.args).head? = some ar ∧ ar.arg = "self"
  hfs : f ≠ "self"
  hfd : (f == ("__debug__" : Str)) = false
  hk : scope.kind = .function
  hco : scope.isCoroutine = false
  hgen : scope.isGenerator = false
  hcells : ∀ x ∈ scope.names, x.2 ≠ .cell
  l1 : scope.names.lookup ("self" : Str) = some .local
  l2 : scope.names.lookup f = some .local
  l3 : scope.names.lookup ("super" : Str) = some .globalImplicit
  l4 : scope.names.lookup ("__class__" : Str) = some .free
  bd : ∃ (p0 p1 p2 p3 p4 p5 p6 p7 p8 p9 : PySem.Pos) (tx : Str) (jj : Nat) (pl : Sem Bool), body = [.Expr (.Call (.Attribute (.Call (.Name "super" p0) [] [] p1) "__init__" p2) [.Constant (.str tx) jj p3] [] p4) p5, .Assign [.Attribute (.Name "self" p6) f p7] (.Name f p8) p9] ∧
    ∀ env : Env, eval (.Call (.Attribute (.Call (.Name "super" p0) [] [] p1) "__init__" p2) [.Constant (.str tx) jj p3] [] p4) env = (do
      let ov ← attributeBase (.Call (.Name "super" p0) [] [] p1) "__init__" env (eval (.Call (.Name "super" p0) [] [] p1) env)
      standAt p2.atName
      let (f, first) ← holding [ov] (getMethod ov "__init__" pl)
      callWith p4 f first (backTo p4 (starEach [.Constant (.str tx) jj p3] env)) [])
def tMkS (C : Addr) (f : Str) (ta : L2.TA) : L2.St → Hp → XK → Prop := fun σ H Q => ta σ H fun vs H1 => ∃ v, vs = [v] ∧ ∀ d, H1 d = none → Q (.ref C) (some d) (upd H1 d (.xd [(f, v)]))
open PySem.W in
theorem pmk_sup {X : Cx} {x f : Str} {C : Addr} {k : Nat} {params : Arguments} {body : List Stmt} {scope : Scope} {e : Expr} {ta : L2.TA} {p pos : PySem.Pos} (T : SupF X.prog X.K C f params body scope) (B : SupB f params body scope) (hm : X.mg x = some (.ref C)) (hsu : X.mg "super" = none) (hr : Room k X.A) (ha : PA X [e] ta) (hg : Gl X x)
    (hdb : (x == ("__debug__" : Str)) = false := by decide) (he : starEach [e] X.env = (false, eval e X.env) :: starEach [] X.env := by rfl) (hpl : (backTo pos (starEach [] X.env)).any (·.1) = false := by rfl) :
    PMk X (.Call (.Name x p) [e] [] pos) (tMkS C f ta) := by
  intro pins s σ H Q I h
  obtain ⟨nm2, q2, N, bs, bm, sn, sub, ab, col, dd, k0, k1, k2, k3, k5, hC, hbm⟩ := T.oex.cls
  obtain ⟨fI, nm, qual, oc, od, osl, kV, doc, pm, an, tcl, cda, cc, ccl, cdd, ccs, vs, file, tf, cl, cld, csl, iC, tI, lk, hcd, lk2, hvs, hfile, lk3⟩ := T.ini
  obtain ⟨ar, par1, par2⟩ := B.par
  obtain ⟨p0, p1, p2, p3, p4, p5, p6, p7, p8, p9, tx, jj, pl, hbody, hev⟩ := B.bd
  refine wpAny_Call_Name_kw (ld_glob I hg hm ?_ hdb)
  refine PySem.W.callWith_K (h₀ := X.base) I.ok.mod.kin T.oex.kC (thn (ha.run pos pins s σ H _ I h) fun us s1 ⟨vs1, H1, I1, r1, v, ev, q1⟩ => ⟨I1.kIn, ?_⟩) he hpl
  subst ev
  obtain ⟨u, rfl, ru⟩ := vals1 r1
  show wpAny _ _ (call (.ref C) [u]) _ _ _
  obtain ⟨hp, g, dr, tk, os⟩ := s1
  have kk : ∀ b o, hp.get? b = some o → ((hp.push (PySem.W.kdv_tup [u])).push (PySem.HandSPX.excO C hp.objs.size)).get? b = some o := fun b o e => Heap.get?_push_of_some _ (Heap.get?_push_of_some _ e)
  have hget : ((hp.push (PySem.W.kdv_tup [u])).push (PySem.HandSPX.excO C hp.objs.size)).get? (hp.objs.size + 1) = some (PySem.HandSPX.excO C hp.objs.size) := by heap_get
  have hsz : hp.objs.size ≤ hp.objs.size + 1 := Nat.le_succ _
  have hn : H1 (hp.objs.size + 1) = none := I1.hok.fresh hsz
  have hKa : X.K.lookup (hp.objs.size + 1) = none := by
    cases e : X.K.lookup (hp.objs.size + 1) with
    | none => rfl
    | some o => exact absurd (Heap.lt_size (I1.kIn _ _ e)) (Nat.not_lt.mpr hsz)
  obtain ⟨mb, hb1, hb2⟩ := I1.mod.blt
  refine wpAny_call (PySem.HandSPX.call_own PySem.F.excBase_ValueError (fun Y => PySem.HandSPX.refsVE_contains Y bm hbm) (I1.kIn _ _ hC) (PySem.W.looks_findIn I1.kIn iC) (fun self => PySem.W.bind_fn I1.kIn self tI) (by rw [sizeLine_eq]; show 1 ≤ 16777216; decide) ?_)
  refine sup_run (C := C) (a := hp.objs.size + 1) hbody (I1.kIn.keeps kk) ((I1.mod.glob.keeps I1.bk).keeps kk) hsu ((hb1.keeps I1.bk).keeps kk) ((hb2 _ (by decide)).trans (by decide +kernel)) T.oex T.noF lk hcd lk2 hvs hfile lk3 T.sup T.mro T.sve T.opq T.top hget hKa ?_ ((I1.mod.nolimit.keeps I1.bk).keeps kk) (.of_eq (B.bind ..)) par1 par2 B.hfs B.hfd B.hk B.hco B.hgen B.hcells B.l1 B.l2 B.l3 B.l4 (fun L => hev _) (fun h' tk' dx fv kp dn dne hx hns => ?_)
  · have e := make_depth (A := X.A) (C := C) (us := [u]) (kw := [])
    have := hr.dp
    rw [e]
    omega
  · refine ⟨rfl, ?_⟩
    have sz2 : hp.objs.size ≤ ((hp.push (PySem.W.kdv_tup [u])).push (PySem.HandSPX.excO C hp.objs.size)).objs.size := by
      rw [Heap.size_push, Heap.size_push]; omega
    have dn2 : hp.objs.size ≤ dx := Nat.le_trans sz2 dn
    obtain ⟨G, g1', g2'⟩ := restrict h' fun b => decide (b ≠ hp.objs.size + 1)
    have gk : ∀ b, b ≠ hp.objs.size + 1 → G.get? b = h'.get? b := fun b hb => g1' b (decide_eq_true hb)
    have ge : G.get? (hp.objs.size + 1) = none := g2' _ (by simp)
    have J : Inv X pins σ (upd H1 dx (.xd [(f, v)])) ⟨G, g, dr, tk', os⟩ := I1.laid (t' := tk') (a := dx) (o := .xd [(f, v)]) (h' := G) (fun b o e => by
        have hb : b ≠ hp.objs.size + 1 := Nat.ne_of_lt (Nat.lt_succ_of_lt (Heap.lt_size e))
        rw [gk b hb]
        exact kp b o hb (kk b o e)) dn2 ⟨_, hns.at fun o y => (gk dx dne).trans y, relO_put (fs := []) ru fun g => trivial⟩
    exact ⟨hp.objs.size + 1, _, _, ⟨G, g, dr, tk', os⟩, _, .ref C, some dx, rfl, J, fun b o z => by
        by_cases hba : b = hp.objs.size + 1
        · rw [hba, ge] at z; cases z
        · exact (gk b hba).symm.trans z, ge, hx, ⟨rfl, rfl⟩, rfl, rfl, by rw [upd_ne (Ne.symm dne)]; exact hn, rfl, I1.bare, raises_own T.oex.exC T.oex.tyC, q1 dx (I1.hok.fresh dn2)⟩
end DL

namespace DL
open PySem PySem.Spec PyProof.Rows L2
theorem IsTs.get {K : PySem.W.Frag} {G : Hp} : ∀ {kds : List (List Key × D)} {kvs : List (List Key × V)} {i : Nat} {k : List Key} {v : V}, IsTs K G kds kvs → kvs[i]? = some (k, v) → ∃ d, kds[i]? = some (k, d) ∧ IsD K G d v
  | [], _, _, _, _, h, e => by cases h; simp at e
  | (k', d) :: ds, _, 0, _, _, h, e => by
    obtain ⟨v, r, rfl, h1, _⟩ := h
    simp at e
    obtain ⟨rfl, rfl⟩ := e
    exact ⟨d, rfl, h1⟩
  | (k', d) :: ds, _, i + 1, _, _, h, e => by
    obtain ⟨v, r, rfl, _, h2⟩ := h
    obtain ⟨d', e2, q⟩ := IsTs.get (i := i) h2 (by simpa using e)
    exact ⟨d', by simpa using e2, q⟩
section
variable {K : PySem.W.Frag} {G0 G H : Hp} {W : Wd}
/-- the statement runs while the dict in slot i is locked -/
def aLockT (i : Nat) (f : List (List Key × D) → AS) : AS := fun A δ W => ∃ kds, δ[i]? = some (some (.dt kds)) ∧ f kds A δ W
end
def keysD (k : List Key) : D := .tup (k.map keyD)
section
variable {X : Cx} {G0 : Hp} {pos apos cpos p : PySem.Pos}
def aForItemsT (i : Nat) (g : AG) (b : AS) : AS := aLockT i fun kds A δ W => forL g b A (fun _ => True) (kds.map fun kv => .tup [keysD kv.1, kv.2]) δ W
variable {tg : Expr} {body : List Stmt} {g : TG} {ag : AG} {tb : TS} {ab : AS} {i : Nat} {x : Str} {elts : List Expr} {kk : Nat} {tpos : PySem.Pos}
end
theorem go_itemsT {kds : List (List Key × D)} {g : AG} {s : AS} {A : AEnds} {δ : Sl} {W : Wd} {n : Nat} (h0 : δ[n]? = some (some (.dt kds))) (h : forL g s A (fun _ => True) (kds.map fun kv => .tup [keysD kv.1, kv.2]) δ W) : aForItemsT n g s A δ W := ⟨kds, h0, h⟩
end DL

namespace DL
open PySem PySem.Spec PyProof.Rows L2
mutual
def D.rp : D → Option PyData
  | .non => some .none
  | .bl b => some (.bool b)
  | .int i => some (.int i)
  | .str x => some (.str x)
  | .tup ds => (D.rps ds).map .tuple
  | .lst ds => (D.rps ds).map .list
  | .dk kds => (D.rpk kds).map .dict
  | .dt kds => (D.rpt kds).map .dict
  | _ => none
def D.rps : List D → Option (List PyData)
  | [] => some []
  | d :: ds => match d.rp, D.rps ds with
    | some p, some ps => some (p :: ps)
    | _, _ => none
def D.rpk : List (Key × D) → Option (List (PyData × PyData))
  | [] => some []
  | (k, d) :: ds => match d.rp, D.rpk ds with
    | some p, some ps => some ((keyP k, p) :: ps)
    | _, _ => none
def D.rpt : List (List Key × D) → Option (List (PyData × PyData))
  | [] => some []
  | (k, d) :: ds => match d.rp, D.rpt ds with
    | some p, some ps => some ((.tuple (k.map keyP), p) :: ps)
    | _, _ => none
end
mutual
theorem D.rp_rpF (W : Wd) : ∀ (d : D) (p : PyData), d.rp = some p → ∀ n, p.depth < n → rpF W n d = some p
  | .non, p, h, n + 1, _ => by cases h; rfl
  | .bl b, p, h, n + 1, _ => by cases h; rfl
  | .int i, p, h, n + 1, _ => by cases h; rfl
  | .str x, p, h, n + 1, _ => by cases h; rfl
  | .tup ds, p, h, n + 1, hn => by
    rw [D.rp, Option.map_eq_some_iff] at h
    obtain ⟨ps, h, rfl⟩ := h
    rw [PyData.depth] at hn
    show (mapO (rpF W n) ds).map PyData.tuple = _
    rw [D.rps_mapO W ds ps h n (by omega)]; rfl
  | .lst ds, p, h, n + 1, hn => by
    rw [D.rp, Option.map_eq_some_iff] at h
    obtain ⟨ps, h, rfl⟩ := h
    rw [PyData.depth] at hn
    show (mapO (rpF W n) ds).map PyData.list = _
    rw [D.rps_mapO W ds ps h n (by omega)]; rfl
  | .flst _, _, h, _, _ => by cases h
  | .dk kds, p, h, n + 1, hn => by
    rw [D.rp, Option.map_eq_some_iff] at h
    obtain ⟨ps, h, rfl⟩ := h
    rw [PyData.depth] at hn
    show (mapO (fun kd : Key × D => (rpF W n kd.2).map fun p => (keyP kd.1, p)) kds).map PyData.dict = _
    rw [D.rpk_mapO W kds ps h n (by omega)]; rfl
  | .dt kds, p, h, n + 1, hn => by
    rw [D.rp, Option.map_eq_some_iff] at h
    obtain ⟨ps, h, rfl⟩ := h
    rw [PyData.depth] at hn
    show (mapO (fun kd : List Key × D => (rpF W n kd.2).map fun p => (PyData.tuple (kd.1.map keyP), p)) kds).map PyData.dict = _
    rw [D.rpt_mapO W kds ps h n (by omega)]; rfl
  | .ty _, _, h, _, _ => by cases h
  | .ptr _, _, h, _, _ => by cases h
  | .fobj _ _, _, h, _, _ => by cases h
theorem D.rps_mapO (W : Wd) : ∀ (ds : List D) (ps : List PyData), D.rps ds = some ps → ∀ n, PyData.depthAll ps < n → mapO (rpF W n) ds = some ps
  | [], ps, h, n, _ => by cases h; rfl
  | d :: ds, ps, h, n, hn => by
    rw [D.rps] at h
    split at h
    · rename_i p qs e1 e2
      cases h
      rw [PyData.depthAll] at hn
      rw [mapO, D.rp_rpF W d p e1 n (by omega), D.rps_mapO W ds qs e2 n (by omega)]
    · cases h
theorem D.rpk_mapO (W : Wd) : ∀ (ds : List (Key × D)) (ps : List (PyData × PyData)), D.rpk ds = some ps → ∀ n, PyData.depthKv ps < n → mapO (fun kd : Key × D => (rpF W n kd.2).map fun p => (keyP kd.1, p)) ds = some ps
  | [], ps, h, n, _ => by cases h; rfl
  | (k, d) :: ds, ps, h, n, hn => by
    rw [D.rpk] at h
    split at h
    · rename_i p qs e1 e2
      cases h
      rw [PyData.depthKv] at hn
      rw [mapO, D.rp_rpF W d p e1 n (by omega), D.rpk_mapO W ds qs e2 n (by omega)]; rfl
    · cases h
theorem D.rpt_mapO (W : Wd) : ∀ (ds : List (List Key × D)) (ps : List (PyData × PyData)), D.rpt ds = some ps → ∀ n, PyData.depthKv ps < n → mapO (fun kd : List Key × D => (rpF W n kd.2).map fun p => (PyData.tuple (kd.1.map keyP), p)) ds = some ps
  | [], ps, h, n, _ => by cases h; rfl
  | (k, d) :: ds, ps, h, n, hn => by
    rw [D.rpt] at h
    split at h
    · rename_i p qs e1 e2
      cases h
      rw [PyData.depthKv] at hn
      rw [mapO, D.rp_rpF W d p e1 n (by omega), D.rpt_mapO W ds qs e2 n (by omega)]; rfl
    · cases h
end
def D.sh (d : D) : Str := (d.rp.getD .none).shown
def Rp (d : D) (n w : Nat) : Prop := ∃ p, d.rp = some p ∧ Shp p ∧ p.depth ≤ n ∧ p.weight ≤ w
def Rps (ds : List D) (n w : Nat) : Prop := ∃ ps, D.rps ds = some ps ∧ Shps ps ∧ PyData.depthAll ps ≤ n ∧ PyData.weightAll ps ≤ w
theorem go_reprE {W : Wd} {Q : DQ} {d : D} {n w : Nat} (h : Rp d n w) (hn : n ≤ 150) (hw : w ≤ 2 ^ 20) (k : Q (.str d.sh) W) : dReprX [d] W Q := by
  obtain ⟨p, e, s, a, b⟩ := h
  refine go_reprX 151 (D.rp_rpF W d p e 151 (by omega)) s (by omega) (by omega) ?_
  unfold D.sh at k
  rw [e] at k
  exact k
theorem Rp.mono {d : D} {n w n' w' : Nat} (h : Rp d n w) (hn : n ≤ n') (hw : w ≤ w') : Rp d n' w' := by
  obtain ⟨p, e, s, a, b⟩ := h
  exact ⟨p, e, s, Nat.le_trans a hn, Nat.le_trans b hw⟩
theorem rps_nil : Rps [] 0 0 := ⟨[], rfl, (fun p h => by cases h), by simp [PyData.depthAll], by simp [PyData.weightAll]⟩
theorem rps_cons {d : D} {ds : List D} {n n' w w' : Nat} (h : Rp d n w) (h' : Rps ds n' w') : Rps (d :: ds) (max n n') (w + 1 + w') := by
  obtain ⟨p, e, s, a, b⟩ := h
  obtain ⟨ps, e', s', a', b'⟩ := h'
  refine ⟨p :: ps, by rw [D.rps, e, e'], fun q hq => ?_, ?_, ?_⟩
  · rcases List.mem_cons.mp hq with rfl | hq
    · exact s
    · exact s' q hq
  · rw [PyData.depthAll]; omega
  · rw [PyData.weightAll]; omega
theorem rp_tup {ds : List D} {n w : Nat} (h : Rps ds n w) : Rp (.tup ds) (n + 1) w := by
  obtain ⟨ps, e, s, a, b⟩ := h
  exact ⟨.tuple ps, by rw [D.rp, e]; rfl, shp_tup s, by rw [PyData.depth]; omega, by rw [PyData.weight]; exact b⟩
theorem trm_rp (t : Trm) : t.d.rp = some t.d.py := by
  induction t using Trm.ind with
  | hv n => rfl
  | ha f ts ih =>
    rw [Trm.d_app, D.rp, D.rps, D.py, D.pys, D.rp]
    have : D.rps (ts.map Trm.d) = some (D.pys (ts.map Trm.d)) := by
      induction ts with
      | nil => rfl
      | cons u us ih2 => rw [List.map_cons, D.rps, ih u List.mem_cons_self, ih2 fun v hv => ih v (List.mem_cons_of_mem _ hv), D.pys]
    rw [this]; rfl
theorem rp_trm {t : Trm} (h : Tn t) : Rp t.d t.depth (12 * t.size) := ⟨_, trm_rp t, h.shp.1, t.depth_py, by have := h.shp.2; omega⟩
end DL

namespace PySem.W
open PySem PySem.Spec PySem.Calls PyProof.Rows
section
variable {prog : Program} {w : World} {A : Around} {E : Value → Shared → Prop} {s : Shared} {K : Frag} {x D : Addr} {ox : Obj} {od : Option Obj}
theorem dl_findObj_data {C : Addr} {name : Str} {a g : Value} (hc : (clsIn K C).isSome = true) (ha : findIn K (.ref C) name = some (some a)) (hg : specialIn K a "__get__" = some (some g)) (ht : takesIn K a = some true) : findObj K C od name = some (.bind g a) := by
  obtain ⟨cd, hc⟩ := Option.isSome_iff_exists.mp hc
  unfold findObj
  rw [hc, Option.bind_some, ha, Option.bind_some]
  simp [hg, ht]
theorem dl_kin_classE {Q : Option Value → Shared → Prop} (hga : findIn K (.ref D) "__getattribute__" = some (some (.builtin "BaseException.__getattribute__"))) (hgt : findIn K (.ref D) "__getattr__" = some none) (hsub : subIn K (.ref D) (.type "BaseException") = some true)
    (hdct : hasDictIn K D = true) (ha : findIn K (.ref D) "__class__" = some (some (.builtin "object.__class__")))
    (hn : specialIn K (.builtin "object.__class__") "__get__" = some (some (.builtin "getset_descriptor.__get__"))) (htk : takesIn K (.builtin "object.__class__") = some true) (hm : mroIn K D (.type "object") = some true)
    (X : K.In s.heap) (I : InstAt s.heap x ox D od) (h : Q (some (.ref D)) { s with toks := s.toks + 1 }) : wpAny (model prog w) A (getAttr? (.ref x) "__class__") Q E s := by
  have hf : findObj K D od "__class__" = some (.bind (.builtin "getset_descriptor.__get__") (.builtin "object.__class__")) := dl_findObj_data (by obtain ⟨cd, hc, _⟩ := any_some hdct; rw [hc]; rfl) ha hn htk
  obtain ⟨hp, g, d, t, os⟩ := s
  have L0 := I.type (M := model prog w)
  have L1 := looks_findIn (M := model prog w) X hga
  have L2 := looks_findIn (M := model prog w) X hgt
  have L3 := looks_find (M := model prog w) X I hf
  have sub : Looks (model prog w) hp (isInstance (.ref x) (.type "BaseException")) true := L0.andThen (looks_subIn X hsub)
  have hx0 : (false && onTheHeap (Value.builtin "BaseException.__getattribute__")) = false := rfl
  have hx2 : (Value.builtin "BaseException.__getattribute__" == Value.builtin "object.__getattribute__") = false := by decide +kernel
  have hx1 : (onTheHeap (Value.ref D) && Value.builtin "BaseException.__getattribute__" == Value.builtin "object.__getattribute__") = false := by rw [hx2]; rfl
  unfold getAttr? getAttrBy? getAttrBy
  refine wpAny_bind (wpAny_mkText (wpAny_bind (wpAny_attempt (wpAny_holding (wpAny_bind (L0.at (wpAny_bind (L1.at ?_))))))))
  show wpAny _ _ (if (onTheHeap (Value.ref D) && Value.builtin "BaseException.__getattribute__" == Value.builtin "object.__getattribute__") = true then _ else _) _ _ _
  rw [hx1, if_neg Bool.false_ne_true]
  unfold getAttrByItsOwn hookBefore
  refine wpAny_bind ?_
  rw [if_pos (show onTheHeap (Value.ref D) = true from rfl)]
  refine L2.at ?_
  refine wpAny_bind (wpAny_attempt (wpAny_holding ?_))
  unfold callGetattribute
  rw [hx0, if_neg Bool.false_ne_true]
  unfold boundAndCalled
  rw [PySem.F.excAttr_ValueError.ga.bind (.ref x)]
  refine wpAny_bind (wpAny_pure ?_)
  show wpAny _ _ (call (.builtin "BaseException.__getattribute__") [.ref x, .str "__class__" t]) _ _ _
  refine wpAny_call (codeAny_call_builtin PySem.F.excAttr_ValueError.ga.plain PySem.F.entry_bexc_ga ?_)
  refine @check_slot (model prog w) _ _ ⟨hp, g, d, t + 1, os⟩ "BaseException.__getattribute__" "BaseException" "__getattribute__" (.ref x) [.str "__class__" t] [] _ (by decide +kernel) (by decide +kernel) sub (PySem.F.args_bexc_ga (.ref x) (.str "__class__" t)) ?_
  unfold Builtin.«object.__getattribute__»
  refine wpAny_bind (wpAny_of_eq (a := ((Value.ref x : Value), [Value.str "__class__" t])) (by first | rfl | (simp only [slotArgs]; rfl)) ?_)
  refine wpAny_bind (wpAny_pure (wpAny_bind (L0.at (wpAny_bind (L3.at ?_)))))
  show wpAny _ _ (holding [Value.builtin "object.__class__"] (call (.builtin "getset_descriptor.__get__") [.builtin "object.__class__", .ref x, .ref D]) >>= ret) _ _ _
  refine wpAny_bind (wpAny_holding (wpAny_call (class_get (s := ⟨hp, g, d, t + 1, os⟩) (ox := ox) (od := od) X I hm ?_)))
  refine wpAny_pure ?_
  show wpAny _ _ (handedOut (.ref D)) _ _ _
  rw [handedOut_of (v := .ref D) rfl]
  first
    | exact wpAny_pure (wpAny_pure h)
    | exact wpAny_pure h
    | exact wpAny_pure (wpAny_bind (wpAny_pure (wpAny_pure h)))
theorem dl_kitx (hga : findIn K (.ref D) "__getattribute__" = some (some (.builtin "BaseException.__getattribute__"))) (hgt : findIn K (.ref D) "__getattr__" = some none) (hsub : subIn K (.ref D) (.type "BaseException") = some true) (hdct : hasDictIn K D = true) (ha : findIn K (.ref D) "__class__" = some (some (.builtin "object.__class__")))
    (hn : specialIn K (.builtin "object.__class__") "__get__" = some (some (.builtin "getset_descriptor.__get__"))) (htk : takesIn K (.builtin "object.__class__") = some true) (hm : mroIn K D (.type "object") = some true) :
    KitX K (.ref x) (.ref D) (fun h => ∃ od, InstAt h x ox D od) where
  ty := fun _ _ _ ⟨_, I⟩ => I.type
  it := fun _ _ X _ => by
    obtain ⟨cdD, hcD, _⟩ := any_some hdct
    unfold clsIn at hcD
    split at hcD
    · rename_i c' d' cd' sl' ho
      intro A' Q' E' s' k q
      unfold isType loadHead
      exact wpAny_bind (wpAny_loadPart (k _ _ (X _ _ ho)) (wpAny_pure q))
    · cases hcD
  ne := fun h tp dd its n sl X htp => by
    obtain ⟨cdD, hcD, _⟩ := any_some hdct
    refine Bool.eq_false_iff.mpr fun q => ?_
    have e : D = tp := Value.ref.inj (beq_iff_eq.mp q)
    subst e
    unfold clsIn at hcD
    split at hcD
    · rename_i c' d' cd' sl' ho
      have z := (X _ _ ho).symm.trans htp
      cases z
    · cases hcD
  ca := fun X ⟨od, I⟩ k => dl_kin_classE hga hgt hsub hdct ha hn htk hm X I k
end
end PySem.W
namespace DL
open PySem PySem.Spec PyProof.Rows L2
section
variable {X : Cx} {G0 : Hp} {pos p pos' np : PySem.Pos} {x n m f : Str} {W : WX} {WD : AW} {e : Expr} {te : TE} {ae : AE} {k i : Nat} {params : Arguments} {body : List Stmt} {scope : Scope}
def aRaise1 (n f : Str) (WD : AW) (a : AE) : AS := fun _ δ W => a δ W fun x W1 => WD δ n [(f, x)] W1
theorem ds_raise1 (K : PySem.W.Frag) (hc : X.calm = true) (tk : Takes X W) (hl : LiftS K G0 (WE W) WD) (T : SupF X.prog K (He.ga K n) f params body scope) (B : SupB f params body scope) (hm : X.mg n = some (.ref (He.ga K n))) (hsu : X.mg "super" = none) (hr : Room k X.A) (he : DE X G0 e te ae)
    (hK : X.K = K := by rfl) (hg : Gl X n := by rfl) (hdb : (n == ("__debug__" : Str)) = false := by decide) (hst : starEach [e] X.env = (false, eval e X.env) :: starEach [] X.env := by rfl) (hpl : (backTo pos (starEach [] X.env)).any (·.1) = false := by rfl) :
    DS X G0 (.Raise (some (.Call (.Name n p) [e] [] pos)) none pos') (fun _ σ H => tMkS (He.ga K n) f (tCons te tNil) σ H fun cls d H' => W cls d σ H') (aRaise1 n f WD ae) := by
  subst hK
  refine ⟨ps_raise hc tk (pmk_sup T B hm hsu hr (pa_cons he.pe pa_nil hst) hg hdb hst hpl), fun E A σ H G δ W' s0 R S eo h => ?_⟩
  refine he.sim σ H _ G δ W' _ s0 R S h fun v d G1 H1 W1 s1 R1 d1 h1 => ?_
  refine ⟨v, rfl, fun q hq => ?_⟩
  obtain ⟨s2, R2⟩ := R1.new (o := .xd [(f, v)]) hq
  exact hl σ δ G s0 S n [(f, d)] (some q) _ _ W1 (s1.trans s2) R2 (.inr ⟨q, [(f, v)], by simp, rfl, upd_same, v, [], rfl, IsD.up s2 _ _ d1, rfl⟩) h1
def aTryAsF (i : Nat) (n f : Str) (ab : AW → AS) (asu : Addr → D → AS) : AS := fun A δ W => ab (fun δ' n' fs W' => ∃ v, n' = n ∧ fs = [(f, v)] ∧ ∀ a, W' a = none → asu a v (Acut i A) (δ'.set i (some (.ptr a))) W') A δ W
open Classical in
variable {tb : WX → TS} {ts : Addr → Addr → TS} {ab : AW → AS} {asu : Addr → D → AS} {Wout : WX} {suite bodyS : List Stmt} {b₀ : Stmt}
def aXf (i : Nat) (a : Addr) (d : D) : AE := fun δ W Q => δ[i]? = some (some (.ptr a)) ∧ Q d W
theorem de_xf {a q : Addr} {oe : Obj} {pn : List (Addr × Obj)} {v : V} {d : D} {y : Str} {p1 : PySem.Pos} (T : XfC X.K (He.ga X.K n)) (hno : PySem.W.findIn X.K (.ref (He.ga X.K n)) f = some none) (hz : Zc (.ref (He.ga X.K n)) (some q) oe) (hf : ∃ vs, oe.data = .fields vs) (hG : G0 q = some (.xd [(f, v)])) (hd : IsD X.K G0 d v)
    (hv : PE (X.suite a ((a, oe) :: pn)) (.Name y p1) (tVar i)) (hb : attributeBase (.Name y p1) f X.env (eval (.Name y p1) X.env) = eval (.Name y p1) X.env := by rfl) :
    DE (X.suite a ((a, oe) :: pn)) G0 (.Attribute (.Name y p1) f pos) (tXf a (.ref (He.ga X.K n)) (some q) (He.ga X.K n) f (tVar i)) (aXf i a d) := by
  refine ⟨pe_xf T hno hz hf hv hb, fun σ H Q G δ W QD s0 R S h k => ?_⟩
  obtain ⟨e, h⟩ := h
  obtain ⟨u, e2, hu⟩ := S.get i _ e
  cases (show u = .ref a from hu)
  refine ⟨_, e2, rfl, rfl, q, _, v, rfl, (R.st _ _ (s0.at hG rfl rfl)).eq rfl, by simp, k.here R (IsD.up s0 _ _ hd) h⟩
def rIsF (K : PySem.W.Frag) (D a q : Addr) : List V → Hp → VK → Prop := fun xs H Q => ∃ (c : V) (cv : Value) (b : Bool) (fs : List (Str × V)), xs = [.ref a, c] ∧ (∀ u, L2.RelV c u → u = cv) ∧ PySem.W.kitOne K (.ref D) cv = some b ∧ H q = some (.xd fs) ∧ Q (.bl b) H
theorem call_isF {a D q : Addr} {oe : Obj} {pn : List (Addr × Obj)} (C : ExcC X.K D) (hz : Zc (.ref D) (some q) oe) (hf : ∃ vs, oe.data = .fields vs) : CallR (X.suite a ((a, oe) :: pn)) (.builtin "isinstance") (rIsF X.K D a q) := by
  intro pins s σ H xs us Q I r h
  obtain ⟨c, cv, b, fs, rfl, hcv, e, hq, qq⟩ := h
  cases r with
  | cons rx rr =>
    cases rr with
    | cons rt rr =>
      cases rr
      cases rx
      have ec := hcv _ rt
      subst ec
      obtain ⟨hget, _⟩ := I.pin (a, oe) (List.mem_append.mpr (.inl List.mem_cons_self))
      obtain ⟨vs, hv⟩ := hf
      obtain ⟨mA, hns, _⟩ := (show ObjOk X.prog X.w H s.heap q (.xd fs) from I.hok q _ hq)
      obtain ⟨od, es, ep, hod, _⟩ := hns
      have J : ∃ od, PySem.W.InstAt s.heap a oe D od := by
        obtain ⟨oc, odd, oda, osl⟩ := oe
        obtain ⟨h1, h2⟩ := hz
        dsimp only at h1 h2 hv
        subst h1 h2 hv
        exact ⟨some od, hget, rfl, rfl, hod⟩
      exact PySem.W.kia_one (PySem.W.dl_kitx C.hg C.hk C.hs C.hd C.ha C.hn C.ht C.hm) I.kIn J e (fun z => nomatch z) fun tk => ⟨.bl b, H, I.kept (t' := tk) fun _ _ z => z, rfl, qq⟩
end
section
variable {n : Nat} {nm f : Str} {WD : AW} {a : AE} {A : AEnds} {δ : Sl} {W : Wd} {Q : DQ}
theorem go_raise1 (h : a δ W fun x W1 => WD δ nm [(f, x)] W1) : aRaise1 nm f WD a A δ W := h
theorem go_tryAsF {ab : AW → AS} {asu : Addr → D → AS} (h : ab (fun δ' n' fs W' => ∃ v, n' = nm ∧ fs = [(f, v)] ∧ ∀ a, W' a = none → asu a v (Acut n A) (δ'.set n (some (.ptr a))) W') A δ W) : aTryAsF n nm f ab asu A δ W := h
theorem go_xf {b : Addr} {d : D} (h0 : δ[n]? = some (some (.ptr b))) (h : Q d W) : aXf n b d δ W Q := ⟨h0, h⟩
end
end DL

namespace DL
open PySem PySem.Spec PyProof.Rows L2
section
variable {fa : List He.Fa} {fn : List He.DefD} {xs : List Lk} {ss : List SupD} {K : PySem.W.Frag}
theorem SaysY.to (c : SaysY fa fn xs ss K) : SaysX fa fn xs K := congrArg (fun z : AlY => z.1) c
theorem SaysY.s (c : SaysY fa fn xs ss K) (i : Nat) {d : SupD} (h : ss[i]? = some d := by rfl) : supObs K d.cls = d.val := by
  have e : ss.map (fun d => supObs K d.cls) = ss.map SupD.val := congrArg (fun z : AlY => z.2) c
  have e2 : (ss.map fun d => supObs K d.cls)[i]? = (ss.map SupD.val)[i]? := by rw [e]
  rw [List.getElem?_map, List.getElem?_map, h] at e2
  exact Option.some.inj e2
end
theorem oexB_ok {K : PySem.W.Frag} {C : Addr} (h : oexB K C = true) : OexC K C := by
  unfold oexB at h
  simp only [Bool.and_eq_true, decide_eq_true_eq] at h
  obtain ⟨q, h1, h2, h3, h4⟩ := h
  refine ⟨?_, h1, h2, h3, h4⟩
  split at q
  · rename_i dd cd sl ho
    split at q
    · rename_i C' bm k0 k1 k2 k3 n k5 hm hs
      simp only [Bool.and_eq_true, beq_iff_eq, Bool.not_eq_true'] at q
      obtain ⟨⟨⟨⟨rfl, rfl⟩, hdel⟩, hdi⟩, ht⟩ := q
      obtain ⟨nm, bs, mro, ns, qn, hd, sn, sub, ab, col, del⟩ := cd
      dsimp only at hm hdel hdi
      subst hm hdel hdi
      have hsl : sl = #[k0, k1, k2, k3, some (.builtin "ValueError.__new__"), k5] := by
        obtain ⟨l⟩ := sl
        simp only at hs
        rw [hs]
      subst hsl
      exact ⟨nm, qn, ns, bs, bm, sn, sub, ab, col, dd, k0, k1, k2, k3, k5, ho, ht⟩
    · cases q
  · cases q
theorem lkSup_ok {P : Program} {K : PySem.W.Frag} {d : SupD} {f file : Str} (h : lkSup file d.cls f K = true) (ho : supObs K d.cls = d.val) (hf : P.main.file = file) (ht : (P.main.scope.names.lookup ("super" : Str)).isSome = false) : SupF P K (He.ga K d.cls) f d.params d.body d.scope := by
  unfold lkSup at h
  simp only [Bool.and_eq_true, decide_eq_true_eq] at h
  obtain ⟨h1, h2, h3, h4, h5, h6, h7⟩ := h
  refine ⟨oexB_ok h1, h2, ?_, h4, h5, h6, h7, ht⟩
  unfold inB at h3
  simp only [Bool.and_eq_true, decide_eq_true_eq] at h3
  obtain ⟨g1, g2, g3⟩ := h3
  unfold supObs at ho
  split at g3
  · rename_i oc od fd osl lk
    rw [lk] at ho
    split at g3
    · rename_i nn cc cda hcl hdf hcd
      simp only [Bool.and_eq_true] at g3
      obtain ⟨k1, k2, k3⟩ := g3
      split at k2
      · rename_i ccl cdd vs ccs lk2
        split at k2
        · rename_i fl tf hvs
          split at k3
          · rename_i cl cld D csl lk3
            have eD : D = He.ga K d.cls := eq_of_beq k3
            subst eD
            obtain ⟨n1, n2, n3, n4, n5, n6, n7, n8, n9, n10, n11, n12, n13, n14, n15⟩ := fd
            dsimp only at hcl hdf hcd ho k1
            subst hcl hdf hcd
            simp only [SupD.val, Option.some.injEq, Prod.mk.injEq, List.map_cons, List.map_nil, List.cons.injEq, and_true] at ho
            obtain ⟨e1, e2, e3, e4, e5, e6⟩ := ho
            subst e4 e5 e6
            rw [e1, e2, e3] at lk
            exact ⟨_, n1, n2, oc, od, osl, n9, n10, n11, n12, n14, cda, cc, ccl, cdd, ccs, vs, fl, tf, cl, cld, csl, g1, g2, lk, k1, lk2, hvs, by rw [hf]; exact k2, lk3⟩
          · cases k3
        · cases k2
      · cases k2
    · cases g3
  · cases g3
/-- what the text of such an __init__ must be -/
theorem supB_of {f : Str} {params : Arguments} {body : List Stmt} {scope : Scope} {p0 p1 p2 p3 p4 p5 p6 p7 p8 p9 : PySem.Pos} {tx : Str} {jj : Nat} {pl : Sem Bool} {ar : Arg}
    (bd : body = [.Expr (.Call (.Attribute (.Call (.Name "super" p0) [] [] p1) "__init__" p2) [.Constant (.str tx) jj p3] [] p4) p5, .Assign [.Attribute (.Name "self" p6) f p7] (.Name f p8) p9])
    (bind : ∀ (nm qual : Str) (cl : List (Str × Addr)) (kV doc pm : Value) (an : Option Addr) (cdv ct x y : Value), bindArgs (PySem.W.fnX nm qual params body scope cl .none kV doc pm an cdv ct) ⟨[x, y], []⟩ = pure [(("self" : Str), x), (f, y)])
    (par : (params.posonlyargs ++ params.args).head? = some ar) (har : ar.arg = "self") (hfs : f ≠ "self") (hfd : (f == ("__debug__" : Str)) = false) (hk : scope.kind = .function) (hco : scope.isCoroutine = false) (hgen : scope.isGenerator = false) (hcells : ∀ x ∈ scope.names, x.2 ≠ .cell)
    (l1 : scope.names.lookup ("self" : Str) = some .local) (l2 : scope.names.lookup f = some .local) (l3 : scope.names.lookup ("super" : Str) = some .globalImplicit) (l4 : scope.names.lookup ("__class__" : Str) = some .free)
    (ev : ∀ env : Env, eval (.Call (.Attribute (.Call (.Name "super" p0) [] [] p1) "__init__" p2) [.Constant (.str tx) jj p3] [] p4) env = (do
      let ov ← attributeBase (.Call (.Name "super" p0) [] [] p1) "__init__" env (eval (.Call (.Name "super" p0) [] [] p1) env)
      standAt p2.atName
      let (f, first) ← holding [ov] (getMethod ov "__init__" pl)
      callWith p4 f first (backTo p4 (starEach [.Constant (.str tx) jj p3] env)) [])) : SupB f params body scope :=
  ⟨bind, ⟨ar, par, har⟩, hfs, hfd, hk, hco, hgen, hcells, l1, l2, l3, l4, ⟨p0, p1, p2, p3, p4, p5, p6, p7, p8, p9, tx, jj, pl, bd, ev⟩⟩
theorem lkXf_ok {K : PySem.W.Frag} {n : Str} (h : lkXf n K = true) : XfC K (He.ga K n) := xfB_ok h
end DL

namespace DL
open PySem PySem.Spec PyProof.Rows L2
/-- what such a def promises, an object p standing there -/
structure FnC (P : Program) (w : World) (K : PySem.W.Frag) (mg : Str → Option Value) (base : Heap) (k : Nat) (f : Addr) (fd : FuncData) (ps : List Str) (sp : Sp) : Prop where
  len : ∀ vs H Q E, sp vs H Q E → vs.length = ps.length
  run : ∀ {A : Around} {outer : List Env} {s : Shared} {H : Hp} {args : Args} {us : List Value} {vs : List V} {Q : VK} {E : XK} {p : Addr × Obj}, L2H.RoomH k A → L2H.PinOk outer H s p → Env0 P w K mg base A outer s H → BindsTo s fd args (ps.zip us) → Vals vs us → sp vs H Q E → codeAny (model P w) A (.call (.ref f) args) (CR CX0 outer P w H s Q E) s
section
variable {P : Program} {w : World} {K : PySem.W.Frag} {mg : Str → Option Value} {base : Heap} {j k : Nat} {f : Addr} {fd : FuncData} {ps : List Str} {sp : Sp}
theorem FnC.mono (F : FnC P w K mg base j f fd ps sp) (h : j ≤ k) : FnC P w K mg base k f fd ps sp := ⟨F.len, fun r p e b v q => F.run (L2H.RoomH.mono r h) p e b v q⟩
end
structure FkC (P : Program) (w : World) (K : PySem.W.Frag) (mg : Str → Option Value) (base : Heap) (k : Nat) (x : Str) (ps : List Str) (sp : SpD) : Prop where
  ex : ∃ f fd, FnC P w K mg base k f fd ps (liftSp K sp) ∧ mg x = some (.ref f) ∧ PySem.W.keepIn K (.ref f) = true ∧ Binds K fd ps []
section
variable {P : Program} {w : World} {K : PySem.W.Frag} {mg : Str → Option Value} {base : Heap}
theorem FkC.mono {j k : Nat} {x : Str} {ps : List Str} {sp : SpD} (g : FkC P w K mg base j x ps sp) (h : j ≤ k) : FkC P w K mg base k x ps sp := by
  obtain ⟨f, fd, F, m⟩ := g.ex
  exact ⟨f, fd, F.mono h, m⟩
end
end DL

namespace DL
open PySem PySem.Spec PyProof.Rows L2
abbrev Ru := Trm × Trm
theorem eqvAll_self : ∀ {ds : List D}, (∀ d ∈ ds, PyData.eqv d.py d.py = true) → PyData.eqvAll (D.pys ds) (D.pys ds) = true
  | [], _ => rfl
  | d :: ds, h => by
    rw [D.pys, PyData.eqvAll, h d List.mem_cons_self, eqvAll_self fun x hx => h x (List.mem_cons_of_mem _ hx)]; rfl
theorem symss_occ_of {v : Int} : ∀ {ts : List Trm}, v ∈ (Trm.symss ts).filterMap Sy.int? → ∃ t ∈ ts, v ∈ occ t
  | [], h => by cases h
  | t :: ts, h => by
    rw [Trm.symss, List.filterMap_append, List.mem_append] at h
    rcases h with h | h
    · exact ⟨t, List.mem_cons_self, h⟩
    · obtain ⟨u, hu, hv⟩ := symss_occ_of h
      exact ⟨u, List.mem_cons_of_mem _ hu, hv⟩
theorem occ_app {f : Str} {ts : List Trm} : occ (.app f ts) = (Trm.symss ts).filterMap Sy.int? := by
  unfold occ; rw [Trm.syms, List.filterMap_cons]; rfl
theorem occ_subE {f : Int → Trm} {v : Int} (t : Trm) : v ∈ occ (t.sub f) → ∃ u ∈ occ t, v ∈ occ (f u) := by
  induction t using Trm.ind with
  | hv n => exact fun h => ⟨n, by simp [occ, Trm.syms, Sy.int?], h⟩
  | ha g ts ih =>
    intro h
    rw [sub_app, occ_app] at h
    obtain ⟨t, ht, hv⟩ := symss_occ_of h
    obtain ⟨t', ht', rfl⟩ := List.mem_map.mp ht
    obtain ⟨u, hu, hw⟩ := ih t' ht' hv
    exact ⟨u, by rw [occ_app]; exact occ_mem ht' hu, hw⟩
theorem Wf.more {ops : Sig} {n m : Int} (h : n ≤ m) {t : Trm} (ht : Wf ops n t) : Wf ops m t := by
  induction t using Trm.ind with
  | hv v => cases ht with | var a b => exact .var a (by omega)
  | ha f ts ih =>
    obtain ⟨a, b⟩ := ht.args
    exact .app a fun t h => ih t h (b t h)
end DL

namespace DL
open PySem PySem.Spec PyProof.Rows L2
/-- the k-th rule at a position, by a substitution -/
abbrev Stp := Nat × List Int × Sb
def redK (rs : List Ru) (t : Trm) (p : List Int) (k : Nat) : Option Stp := match rs[k]? with
  | none => none
  | some r => if (mt r.1 (t.at p) []).1 = true then some (k, p, (mt r.1 (t.at p) []).2) else none
def redTo (rs : List Ru) (t : Trm) (p : List Int) (k : Nat) : List Stp := (List.range k).filterMap (redK rs t p)
abbrev redAt (rs : List Ru) (t : Trm) (p : List Int) : List Stp := redTo rs t p rs.length
def reds (rs : List Ru) (t : Trm) : List Stp := t.pos.flatMap (redAt rs t)
theorem redAt_mem {rs : List Ru} {t : Trm} {p : List Int} {x : Stp} (h : x ∈ redAt rs t p) : ∃ r, rs[x.1]? = some r ∧ x.2.1 = p ∧ (mt r.1 (t.at p) []).1 = true ∧ x.2.2 = (mt r.1 (t.at p) []).2 := by
  obtain ⟨k, hk, e⟩ := List.mem_filterMap.mp h
  unfold redK at e
  split at e
  · cases e
  · rename_i r hr
    split at e
    · rename_i hm
      cases e
      exact ⟨r, hr, rfl, hm, rfl⟩
    · cases e
theorem redAt_small {rs : List Ru} {t : Trm} {p : List Int} (hp : t.isPos p = true) {x : Stp} (h : x ∈ redAt rs t p) : ∀ vt ∈ x.2.2, vt.2.depth ≤ t.depth ∧ vt.2.size ≤ t.size := by
  obtain ⟨r, _, _, _, e⟩ := redAt_mem h
  intro vt hv
  rw [e] at hv
  have a := at_size hp
  rcases mt_sub _ _ _ vt hv with h | h
  · cases h
  · exact ⟨by omega, by omega⟩
theorem reds_small {rs : List Ru} {t : Trm} {x : Stp} (h : x ∈ reds rs t) : (∀ vt ∈ x.2.2, vt.2.depth ≤ t.depth ∧ vt.2.size ≤ t.size) ∧ x.2.1.length < t.depth := by
  obtain ⟨p, hp, hx⟩ := List.mem_flatMap.mp h
  have pk := pos_ok t p hp
  obtain ⟨_, _, e, _⟩ := redAt_mem hx
  exact ⟨redAt_small pk.isPos hx, by rw [e]; exact pk.short⟩
mutual
def Trm.ipos : Trm → List (List Int)
  | .var _ => [[]]
  | .app _ ts => Trm.iposs 1 ts ++ [[]]
def Trm.iposs (i : Int) : List Trm → List (List Int)
  | [] => []
  | t :: ts => (t.ipos.map (i :: ·)) ++ Trm.iposs (i + 1) ts
end
theorem iposs_len (i : Int) : ∀ (ts : List Trm), (∀ t ∈ ts, t.ipos.length = t.size) → (Trm.iposs i ts).length = Trm.sizes ts := by
  intro ts
  induction ts generalizing i with
  | nil => intro _; rfl
  | cons t ts ih =>
    intro h
    rw [Trm.iposs, List.length_append, List.length_map, h t List.mem_cons_self, ih _ fun u hu => h u (List.mem_cons_of_mem _ hu)]; rfl
theorem ipos_len (t : Trm) : t.ipos.length = t.size := by
  induction t using Trm.ind with
  | hv n => rfl
  | ha f ts ih => rw [Trm.ipos, List.length_append, iposs_len _ _ ih, Trm.size]; simp; omega
/-- small rules, terms -/
def RsOk (rs : List Ru) : Prop := rs.length ≤ 100 ∧ ∀ r ∈ rs, r.1.depth ≤ 40 ∧ r.1.size ≤ 10000 ∧ r.2.depth ≤ 40 ∧ r.2.size ≤ 10000
theorem RsOk.big {rs : List Ru} (h : RsOk rs) : rs.length ≤ 1000 ∧ ∀ r ∈ rs, r.1.depth ≤ 100 ∧ r.1.size ≤ 10000 ∧ r.2.depth ≤ 100 ∧ r.2.size ≤ 10000 :=
  ⟨by have := h.1; omega, fun r hr => by obtain ⟨a, b, c, d⟩ := h.2 r hr; exact ⟨by omega, b, by omega, d⟩⟩
/-- plain values below a depth -/
def Eqs : Nat → D → Prop
  | 0, _ => False
  | n + 1, .tup ds => ds.length ≤ 10000 ∧ ∀ d ∈ ds, Eqs n d
  | _ + 1, .int _ => True
  | _ + 1, .str _ => True
  | _ + 1, .non => True
  | _, _ => False
theorem Eqs.pos {n : Nat} {p : List Int} (h : p.length ≤ 10000) : Eqs (n + 2) (posD p) := ⟨by simpa using h, fun d hd => by obtain ⟨i, _, rfl⟩ := List.mem_map.mp hd; trivial⟩
theorem Eqs.given {n : Nat} {k : Nat} : Eqs (n + 2) (.tup [.str "given", .int k]) := ⟨by simp, fun d hd => by
  simp only [List.mem_cons, List.not_mem_nil, or_false] at hd
  rcases hd with rfl | rfl <;> trivial⟩
end DL

namespace DL
open PySem PySem.Spec PyProof.Rows L2
/-- the turns; the new dict is owned at L -/
def dcL (g : AG) (t : AT) (ek ev : AE) (ok : Wd → Prop) (δ : Sl) (L : Addr) (Q : Wd → Prop) : List D → Wd → Prop
  | [], W => ok W ∧ Q W
  | d :: ds, W => ok W ∧ g d δ W fun δ' W' => t δ' W' fun k W2 => if k = true then ek δ' W2 fun y W3 => ev δ' W3 fun z W4 => ∃ kds key, keyOf y = some key ∧ W4 L = some (.dk kds) ∧ kds.length < sizeLine ∧ dcL g t ek ev ok δ L Q ds (W4.set L (.dk (dput kds key z))) else dcL g t ek ev ok δ L Q ds W2
def dcE (own : Bool) (g : AG) (t : AT) (ek ev : AE) (ok : Wd → Prop) (δ : Sl) (items : List D) (W : Wd) (Q : DQ) : Prop := ∀ L, W L = none → dcL g t ek ev ok δ L (fun W2 => ∃ kds, W2 L = some (.dk kds) ∧ (if own = true then Q (.ptr L) W2 else Q (.dk kds) (W2.del L))) items (W.set L (.dk []))
def aDc (own : Bool) (ai : AI) (g : AG) (t : AT) (ek ev : AE) (vs : List Nat) : AE := fun δ W Q => ai δ W fun items ok W1 => dcE own g t ek ev ok (wipeD δ vs) items W1 Q
section
variable {K : PySem.W.Frag} {G0 : Hp}
/-- the expression is told while the dict in slot i is locked -/
def aLockE (i : Nat) (f : (Wd → Prop) → List (Key × D) → AE) : AE := fun δ W Q => (∃ kds, δ[i]? = some (some (.dk kds)) ∧ f (fun _ => True) kds δ W Q) ∨
  ∃ p kds, δ[i]? = some (some (.ptr p)) ∧ W p = some (.dk kds) ∧ ∀ u kvs, f (fun W' => W' p = some (.lck u kvs kds)) kds δ (W.set p (.lck u kvs kds)) fun d W' => W' p = some (.lck u kvs kds) ∧ Q d (W'.set p (.dk kds))
end
section
variable {X : Cx} {G0 : Hp} {pos apos cpos p spos py : PySem.Pos}
variable {kx vx iter tg : Expr} {ifs : List Expr} {scope : Scope} {own : List (Str × Nat)} {wi : TI} {ai : AI} {g : TG} {tt : TT} {ag : AG} {at' : AT} {tk tv : TE} {ak av : AE} {i : Nat} {x y : Str}
def aDcItems (own : Bool) (i : Nat) (g : AG) (t : AT) (ek ev : AE) (vs : List Nat) : AE := aLockE i fun ok kds δ W Q => dcE own g t ek ev ok (wipeD δ vs) (kds.map fun kv => .tup [keyD kv.1, kv.2]) W Q
variable {elts : List Expr} {kk : Nat} {tpos : PySem.Pos}
end
theorem go_dcItems {i : Nat} {own : Bool} {g : AG} {t : AT} {ek ev : AE} {vs : List Nat} {δ : Sl} {W : Wd} {Q : DQ} {kds : List (Key × D)} (h0 : δ[i]? = some (some (.dk kds))) (h : dcE own g t ek ev (fun _ => True) (wipeD δ vs) (kds.map fun kv => .tup [keyD kv.1, kv.2]) W Q) : aDcItems own i g t ek ev vs δ W Q := .inl ⟨kds, h0, h⟩
theorem go_dc {own : Bool} {ai : AI} {g : AG} {t : AT} {ek ev : AE} {vs : List Nat} {δ : Sl} {W : Wd} {Q : DQ} (h : ai δ W fun items ok W1 => dcE own g t ek ev ok (wipeD δ vs) items W1 Q) : aDc own ai g t ek ev vs δ W Q := h
end DL

namespace DL
open PySem PySem.Spec PyProof.Rows L2
def cutO : Option Nat → Ends → Ends
  | none, D => D
  | some i, D => { nx := fun σ' H' => D.nx (σ'.set i none) H', rt := D.rt, bk := fun σ' H' => D.bk (σ'.set i none) H', ct := fun σ' H' => D.ct (σ'.set i none) H' }
def setO : Option Nat → Addr → L2.St → L2.St
  | none, _, σ => σ
  | some i, a, σ => σ.set i (some (.ref a))
abbrev Cls1 := Value × Option Nat × (Addr → Value → Option Addr → TS)
/-- what the clauses wish of an exception of the body, one after the other -/
def wM (K : PySem.W.Frag) (Wout : WX) (D : Ends) : List Cls1 → WX
  | [] => Wout
  | (c, io, ts) :: r => fun cls d σ H => ∃ b, PySem.W.exmOne K cls c = some b ∧ (b = true → ∀ a, H a = none → ts a cls d (cutO io D) (setO io a σ) H) ∧ (b = false → wM K Wout D r cls d σ H)
def NmOk (X : Cx) (nm : Option Str) (io : Option Nat) : Prop := (nm = none ∧ io = none) ∨ ∃ n i, nm = some n ∧ io = some i ∧ X.N[i]? = some n ∧ X.env.kindOf n = some .local
inductive HdsM (X : Cx) : List ExceptHandler → List Cls1 → Prop
  | nil : HdsM X [] []
  | cons {x : Str} {c : Value} {io : Option Nat} {nm : Option Str} {ts : Addr → Value → Option Addr → TS} {b₀ : Stmt} {suite : List Stmt} {np pos' : PySem.Pos} {hds : List ExceptHandler} {l : List Cls1} (hc : Names X x c) (hn : NmOk X nm io)
      (hsu : ∀ (a : Addr) (oe : Obj) (cls : Value) (d : Option Addr) (pn : List (Addr × Obj)), Zc cls d oe → (∃ vs, oe.data = .fields vs) → PSs (X.suite a ((a, oe) :: pn)) (b₀ :: suite) (ts a cls d)) (r : HdsM X hds l) :
      HdsM X (.ExceptHandler (some (.Name x np)) nm (b₀ :: suite) pos' :: hds) ((c, io, ts) :: l)
section
variable {X : Cx} {body : List Stmt} {h₀ : ExceptHandler} {hds : List ExceptHandler} {l : List Cls1} {pos : PySem.Pos} {tb : WX → TS} {Wout : WX}
theorem ps_tryM (hs : X.stack = X.env :: X.outer) (hf : X.env.frame = some X.env.locals) (hN : X.N.Nodup) (tk : Takes X Wout)
    (hb : ∀ (W : WX) (pn : List (Addr × Obj)) (xe : Value → Shared → Prop), Takes (X.tr pn xe) W → PassesOwn (model X.prog X.w) X.A X.env xe → PSs (X.tr pn xe) body (tb W))
    (hh : HdsM X (h₀ :: hds) l) : PS X (.Try body (h₀ :: hds) [] [] pos) (fun D σ H => tb (wM X.K Wout D l) D σ H) := by
  refine ⟨fun pins s σ H D I h => ?_⟩
  have ok := I.ok
  have hfr : X.A.frames = some (X.env :: X.outer) := by rw [ok.frames, hs]
  refine wpAny_Try_except ?_
  refine wpAny_mono ((hb (wM X.K Wout D l) (X.pn ++ pins) (fun e s₁ => wpAny (model X.prog X.w) X.A (noteFrame e X.env) (fun _ s₂ => wpAny (model X.prog X.w) X.A (setFlight e none) (fun _ s₃ =>
    wpAny (model X.prog X.w) X.A (handleBy e X.env (h₀ :: hds)) (SP X pins D) X.xe s₃) X.xe s₂) X.xe s₁) (fun u s' xx => ?_) PassesOwn.looking).run [] s σ H D (I.toTry _) h) (fun f s1 hsp => ?_) (fun e s1 he => he)
  · obtain ⟨a, B, sI, pins', σ', H', cls, d, rfl, J', nb, up, sky, na, os, ag, w⟩ := xx
    have J : Inv X pins σ' H' sI := J'.ofTry ok
    have sky' : Sky B (X.env :: X.outer) a (Zc cls d) X.env.locals s'.heap := by rw [← hs]; exact sky
    show wpAny (model X.prog X.w) X.A (noteFrame (.ref a) X.env) _ _ _
    refine Sky.land Zc.steady hfr hf sky' fun h3 fl3 up3 => ?_
    have J3 : Inv X pins σ' H' { s' with heap := h3 } := J.landed nb fl3.1 (up.trans up3) os ag
    obtain ⟨oe3, vs3, he3, hz3, hd3⟩ := fl3.there
    have notFr : ∀ {h : Heap} {o : Obj} {vs : Array Value}, h.FunFrames B (X.env :: X.outer) → h.get? a = some o → o.data = .fields vs → a ∉ frs (X.env :: X.outer) := fun {h o vs} ff e dd hm => by
      obtain ⟨_, o', e', hnf⟩ := ff.mem hm
      rw [e] at e'; cases e'
      exact hnf _ dd
    have nfr := notFr fl3.2.2.1 he3 hd3
    have nL : a ≠ X.env.locals := fun z => nfr (List.mem_filterMap.mpr ⟨X.env, List.mem_cons_self, by rw [hf, z]⟩)
    have nF : a ∉ X.fs := fun hm => by
      obtain ⟨e, he, q⟩ := List.mem_filterMap.mp hm
      exact nfr (List.mem_filterMap.mpr ⟨e, List.mem_cons_of_mem _ he, q⟩)
    have S3 := J3.suite he3 hd3 na nL nF
    have go : ∀ {hds' : List ExceptHandler} {l' : List Cls1}, HdsM X hds' l' → wM X.K Wout D l' cls d σ' H' →
        wpAny (model X.prog X.w) X.A (handleBy (.ref a) X.env hds') (SP X pins D) X.xe { s' with heap := h3 } := by
      intro hds' l' hk
      induction hk with
      | nil =>
        intro w
        refine wpAny_handleBy_nil ?_
        obtain ⟨k1, k2, k3, oe, vs, T, oT, ts', he, hz, hd, h1, hr⟩ := id fl3
        unfold PySem.passOn
        refine wpAny_bind (wpAny_field he hd h1 ?_)
        rw [if_neg (show ¬ ((Value.ref T == Value.none) = true) from by simp)]
        have fin : wpAny (model X.prog X.w) X.A (setFlight (.ref a) X.env.frame) (fun _ s4 => wpAny (model X.prog X.w) X.A (throw (.ref a) : Sem Flow) (SP X pins D) X.xe s4) X.xe { s' with heap := h3 } := by
          rw [hf]
          refine HandSPX.setFlight_upZ fl3 fun h4 hh4 up4 => wpAny_throw (tk _ _ ?_)
          exact ⟨a, B, sI, pins, σ', H', cls, d, rfl, J, nb, (up.trans up3).trans up4, .inr (.inr (by rw [hs]; exact hh4)), na, os, ag, w⟩
        first
          | exact wpAny_bind (wpAny_pure (wpAny_bind fin))
          | exact wpAny_bind fin
      | @cons x c io nm ts b₀ suite np pos' hds2 l2 hc hnm hsu r ih =>
        intro w
        obtain ⟨b, hb1, hyes, hno⟩ := w
        refine wpAny_handleBy_cons (codeAny_handlers_test ?_) (by intro q; cases q)
        have LT : PySem.W.Looks (model X.prog X.w) h3 (typeOf (.ref a)) cls := fun A Q E s k q => wpAny_typeOf_ref (k _ _ he3) (by rw [hz3.1]; exact q)
        have LM := PySem.W.exm_one (M := model X.prog X.w) (J3.kIn) LT hb1
        have test : ∀ {Q : Value → Shared → Prop} {E : Value → Shared → Prop}, Q c { s' with heap := h3 } → wpAny (model X.prog X.w) (X.A.mark (some (.ref a))) (eval (.Name x np) X.env) Q E { s' with heap := h3 } := fun {Q E} q => by
          obtain ⟨hg, hdbg, hm | ⟨hm, hv, hnn⟩⟩ := hc
          · exact ld_glob (X := X.suite a ((a, oe3) :: (X.pn ++ pins))) S3 hg hm q hdbg
          · exact ld_blt (X := X.suite a ((a, oe3) :: (X.pn ++ pins))) S3 hg hm hv q hnn hdbg
        refine test (LM.here ?_)
        cases b with
        | true =>
          rcases hnm with ⟨rfl, rfl⟩ | ⟨n, i, rfl, rfl, hi, hln⟩
          · refine codeAny_handlers_suite ?_
            refine HandSPX.lands_againZ fl3 fun h4 fl4 up4 => ?_
            have J4 : Inv X pins σ' H' { s' with heap := h4 } := J.landed nb fl4.1 ((up.trans up3).trans up4) os ag
            obtain ⟨oe4, vs4, he4, hz4, hd4⟩ := fl4.there
            have S4 := J4.suite he4 hd4 na nL nF
            refine wpAny_mono ((hsu a oe4 cls d (X.pn ++ pins) hz4 ⟨_, hd4⟩).run [] _ _ H' _ S4 (hyes rfl a na)) (fun f s6 hsp => ?_) (fun _ _ z => False.elim z)
            cases f with
            | next =>
              obtain ⟨σ6, H6, S6, q6⟩ := hsp
              exact ⟨_, _, S6.unsuite ok, q6⟩
            | brk =>
              obtain ⟨σ6, H6, S6, q6⟩ := hsp
              exact ⟨_, _, S6.unsuite ok, q6⟩
            | cont =>
              obtain ⟨σ6, H6, S6, q6⟩ := hsp
              exact ⟨_, _, S6.unsuite ok, q6⟩
            | ret u =>
              obtain ⟨v6, σ6, H6, S6, r6, q6⟩ := hsp
              exact ⟨_, _, _, S6.unsuite ok, r6, q6⟩
          · refine codeAny_handlers_suite_as ?_
            refine HandSPX.lands_againZ fl3 fun h4 fl4 up4 => ?_
            have J4 : Inv X pins σ' H' { s' with heap := h4 } := J.landed nb fl4.1 ((up.trans up3).trans up4) os ag
            obtain ⟨oe4, vs4, he4, hz4, hd4⟩ := fl4.there
            have S4 := J4.suite he4 hd4 na nL nF
            refine store_ok (X := X.suite a ((a, oe4) :: (X.pn ++ pins))) (v := .ref a) S4 hN hi (.inl hln) rfl (fun s5 S5 => ?_) (.inr hln)
            refine wpAny_mono ((hsu a oe4 cls d (X.pn ++ pins) hz4 ⟨_, hd4⟩).run [] s5 _ H' _ S5 (hyes rfl a na)) (fun f s6 hsp => ?_) (fun _ _ z => False.elim z)
            have end_ : ∀ {σ6 : L2.St} {H6 : Hp} {Q : Shared → Prop}, Inv (X.suite a ((a, oe4) :: (X.pn ++ pins))) [] σ6 H6 s6 → (∀ s7, Inv X pins (σ6.set i none) H6 s7 → Q s7) →
                wpAny (model X.prog X.w) X.A (do bindName X.env n .none; unbindBehindTheSuite X.env n pos') (fun _ s7 => Q s7) X.xe s6 := fun {σ6 H6 Q} S6 hq => gone_ok (S6.unsuite ok) hN hi hln hq
            cases f with
            | next =>
              obtain ⟨σ6, H6, S6, q6⟩ := hsp
              exact end_ S6 fun s7 J7 => ⟨_, _, J7, q6⟩
            | brk =>
              obtain ⟨σ6, H6, S6, q6⟩ := hsp
              exact end_ S6 fun s7 J7 => ⟨_, _, J7, q6⟩
            | cont =>
              obtain ⟨σ6, H6, S6, q6⟩ := hsp
              exact end_ S6 fun s7 J7 => ⟨_, _, J7, q6⟩
            | ret u =>
              obtain ⟨v6, σ6, H6, S6, r6, q6⟩ := hsp
              exact end_ S6 fun s7 J7 => ⟨_, _, _, J7, r6, q6⟩
        | false =>
          show wpAny _ X.A (handleBy (.ref a) X.env hds2) _ _ _
          exact ih (hno rfl)
    exact go hh w
  · cases f with
    | next =>
      obtain ⟨σ', H', J', q⟩ := hsp
      exact wpAny_execs_nil ⟨σ', H', J'.ofTry ok, q⟩
    | brk =>
      obtain ⟨σ', H', J', q⟩ := hsp
      exact ⟨σ', H', J'.ofTry ok, q⟩
    | cont =>
      obtain ⟨σ', H', J', q⟩ := hsp
      exact ⟨σ', H', J'.ofTry ok, q⟩
    | ret u =>
      obtain ⟨v, σ', H', J', r, q⟩ := hsp
      exact ⟨v, σ', H', J'.ofTry ok, r, q⟩
end
/-- a clause as read: of which exception it tells (its name, its field), the name's slot -/
structure ACl where
  n : Str
  f : Option Str
  i : Option Nat
  asu : Addr → D → AS
/-- the suite of this clause, told of this exception -/
def ACl.go (h : ACl) (n : Str) (fs : List (Str × D)) (A : AEnds) (δ : Sl) (W : Wd) : Prop := n = h.n ∧ (match h.i with
  | none => h.asu 0 .non A δ W
  | some i => match h.f with
    | none => fs = [] ∧ ∀ a, W a = none → h.asu a .non (Acut i A) (δ.set i (some (.ptr a))) W
    | some f => ∃ v, fs = [(f, v)] ∧ ∀ a, W a = none → h.asu a v (Acut i A) (δ.set i (some (.ptr a))) W)
def aTryM (ab : AW → AS) (hs : List ACl) : AS := fun A δ W => ab (fun δ' n fs W' => ∃ h ∈ hs, h.go n fs A δ' W') A δ W
open Classical in
noncomputable def tsM (D : Value) (f : Option Str) (io : Option Nat) (ts : Addr → Addr → TS) : Addr → Value → Option Addr → TS := fun a cls d => match io with
  | none => ts a 0
  | some _ => match f with
    | none => if cls = D ∧ d = none then ts a 0 else tNever
    | some _ => if h : cls = D ∧ ∃ q, d = some q then ts a (Classical.choose h.2) else tNever
section
variable {X : Cx} {G0 : Hp} {pos np pos' : PySem.Pos} {hds : List ExceptHandler} {ls : List Cls1} {hs : List ACl}
/-- one clause, told -/
inductive DCl (X : Cx) (G0 : Hp) (b₀ : Stmt) (suite : List Stmt) : (Addr → Addr → TS) → ACl → Prop
  | nn {t : Addr → TS} {n : Str} {f : Option Str} {asu : Addr → D → AS} (h : ∀ (a : Addr) (oe : Obj) (pn : List (Addr × Obj)), (∃ vs, oe.data = .fields vs) → DSs (X.suite a ((a, oe) :: pn)) G0 (b₀ :: suite) (t a) (asu 0 .non)) : DCl X G0 b₀ suite (fun a _ => t a) ⟨n, f, none, asu⟩
  | no {t : Addr → TS} {n : Str} {i : Nat} {asu : Addr → D → AS} (h : ∀ (a : Addr) (oe : Obj) (pn : List (Addr × Obj)), Zc (.ref (He.ga X.K n)) none oe → (∃ vs, oe.data = .fields vs) → DSs (X.suite a ((a, oe) :: pn)) G0 (b₀ :: suite) (t a) (asu a .non)) : DCl X G0 b₀ suite (fun a _ => t a) ⟨n, none, some i, asu⟩
  | yes {ts : Addr → Addr → TS} {n : Str} {i : Nat} {f : Str} {asu : Addr → D → AS} (h : ∀ (a q : Addr) (oe : Obj) (pn : List (Addr × Obj)) (G1 : Hp) (v : V) (d : D), Zc (.ref (He.ga X.K n)) (some q) oe → (∃ vs, oe.data = .fields vs) → G1 q = some (.xd [(f, v)]) → IsD X.K G1 d v → DSs (X.suite a ((a, oe) :: pn)) G1 (b₀ :: suite) (ts a q) (asu a d)) : DCl X G0 b₀ suite ts ⟨n, some f, some i, asu⟩
/-- the clauses: each exception that the readings tell of goes to its own clause -/
inductive DHs (X : Cx) (G0 : Hp) : List ExceptHandler → List Cls1 → List ACl → Prop
  | nil : DHs X G0 [] [] []
  | cons {x : Str} {nm : Option Str} {h : ACl} {ts : Addr → Addr → TS} {b₀ : Stmt} {suite : List Stmt} {np pos' : PySem.Pos} {hds : List ExceptHandler} {l : List Cls1} {hs : List ACl} (hc : Names X x (.ref (He.ga X.K x))) (hn : NmOk X nm h.i) (dc : DCl X G0 b₀ suite ts h)
      (own : PySem.W.exmOne X.K (.ref (He.ga X.K h.n)) (.ref (He.ga X.K x)) = some true) (oth : ∀ g ∈ hs, PySem.W.exmOne X.K (.ref (He.ga X.K g.n)) (.ref (He.ga X.K x)) = some false) (r : DHs X G0 hds l hs) :
      DHs X G0 (.ExceptHandler (some (.Name x np)) nm (b₀ :: suite) pos' :: hds) ((.ref (He.ga X.K x), h.i, tsM (.ref (He.ga X.K h.n)) h.f h.i ts) :: l) (h :: hs)
theorem DHs.toM (h : DHs X G0 hds ls hs) : HdsM X hds ls := by
  induction h with
  | nil => exact .nil
  | @cons x nm h ts b₀ suite np pos' hds l hs hc hn dc own oth r ih =>
    refine .cons hc hn (fun a oe cls d pn hz hf => ?_) ih
    unfold tsM
    cases dc with
    | nn dc => exact (dc a oe pn hf).ps
    | @no t n i asu dc =>
      by_cases e : cls = .ref (He.ga X.K n) ∧ d = none
      · simp only [if_pos e]
        obtain ⟨rfl, rfl⟩ := e
        exact (dc a oe pn hz hf).ps
      · simp only [if_neg e]; exact pss_never
    | @yes ts n i f asu dc =>
      by_cases e : cls = .ref (He.ga X.K n) ∧ ∃ q, d = some q
      · simp only [dif_pos e]
        have hq := Classical.choose_spec e.2
        generalize Classical.choose e.2 = q at hq
        obtain ⟨rfl, _⟩ := e
        subst hq
        exact (dc a q oe pn (upd (fun _ => none) q (.xd [(f, .non)])) .non .non hz hf upd_same rfl).ps
      · simp only [dif_neg e]; exact pss_never
/-- the wish of the clauses at an exception of which the readings tell -/
theorem DHs.sim {Wout : WX} {E : Ends} {A : AEnds} {G2 : Hp} {σ1 : L2.St} {δ1 : Sl} {n1 : Str} {fs : List (Str × D)} {od : Option Addr} {H2 : Hp} {W2 : Wd} (h : DHs X G0 hds ls hs) (s02 : Same G0 G2) (R2 : Rel X.K G2 H2 W2) (S1 : IsSl X.K G2 δ1 σ1) (eo : EndsOk X.K G2 E A) (hx : XD X.K G2 od fs)
    {g : ACl} (hg : g ∈ hs) (hw : g.go n1 fs A δ1 W2) : wM X.K Wout E ls (.ref (He.ga X.K n1)) od σ1 H2 := by
  induction h with
  | nil => cases hg
  | @cons x nm h ts b₀ suite np pos' hds l hs hc hn dc own oth r ih =>
    have hw' := hw
    obtain ⟨rfl, hw⟩ := hw
    rcases List.mem_cons.mp hg with rfl | hg
    · refine ⟨true, own, fun _ a ha => ?_, fun z => nomatch z⟩
      have dm : ∀ (n : Str) (d : Option Addr), Zc (.ref (He.ga X.K n)) d { cls := .ref (He.ga X.K n), dict := d, data := .fields #[] } := fun n d => ⟨rfl, rfl⟩
      unfold tsM
      cases dc with
      | @nn t n f asu dc => exact (dc a { cls := .ref (He.ga X.K n), data := .fields #[] } [] ⟨_, rfl⟩).sim _ A _ _ _ _ _ s02 R2 S1 eo hw
      | @no t n i asu dc =>
        obtain ⟨rfl, hw⟩ := hw
        have hod : od = none := by
          rcases hx with ⟨_, e⟩ | ⟨b, vs, e, _⟩
          · exact e
          · exact absurd rfl e
        subst hod
        simp only [and_self, if_true]
        exact (dc a { cls := .ref (He.ga X.K n), data := .fields #[] } [] (dm n none) ⟨_, rfl⟩).sim _ (Acut i A) _ _ _ _ _ s02 R2 (S1.set i (d := .ptr a) (v := .ref a) rfl) (eo.cut i) (hw a (R2.freeW ha))
      | @yes ts n i f asu dc =>
        obtain ⟨v, rfl, hw⟩ := hw
        rcases hx with ⟨e, _⟩ | ⟨q, vs, _, rfl, gq, hvs⟩
        · cases e
        obtain ⟨u, r', rfl, hu, hr⟩ := hvs
        cases hr
        have hh : (Value.ref (He.ga X.K n) = .ref (He.ga X.K n)) ∧ ∃ q', some q = some q' := ⟨rfl, q, rfl⟩
        simp only [dif_pos hh]
        have hq := Classical.choose_spec hh.2
        generalize Classical.choose hh.2 = q' at hq
        cases hq
        exact (dc a q { cls := .ref (He.ga X.K n), dict := some q, data := .fields #[] } [] G2 u v (dm n _) ⟨_, rfl⟩ gq hu).sim _ (Acut i A) _ _ _ _ _ (Same.refl _) R2 (S1.set i (d := .ptr a) (v := .ref a) rfl) (eo.cut i) (hw a (R2.freeW ha))
    · exact ⟨false, oth g hg, (fun z => nomatch z), fun _ => ih hg⟩
variable {body : List Stmt} {h₀ : ExceptHandler} {tb : WX → TS} {ab : AW → AS} {Wout : WX}
theorem ds_tryM (hst : X.stack = X.env :: X.outer) (hf : X.env.frame = some X.env.locals) (hN : X.N.Nodup) (tk : Takes X Wout)
    (hb : ∀ (W : WX) (WD : AW) (pn : List (Addr × Obj)) (xe : Value → Shared → Prop) (G1 : Hp), Same G0 G1 → Takes (X.tr pn xe) W → PassesOwn (model X.prog X.w) X.A X.env xe → LiftS X.K G1 (WE W) WD → DSs (X.tr pn xe) G1 body (tb W) (ab WD))
    (hh : DHs X G0 (h₀ :: hds) ls hs) : DS X G0 (.Try body (h₀ :: hds) [] [] pos) (fun D σ H => tb (wM X.K Wout D ls) D σ H) (aTryM ab hs) := by
  refine ⟨ps_tryM hst hf hN tk (fun W pn xe tk' hp => (hb W AW.none pn xe G0 (Same.refl G0) tk' hp liftS_none).ps) hh.toM, ?_⟩
  intro E A σ H G δ W s0 R S eo h
  refine (hb (wM X.K Wout E ls) _ X.pn (xeLook X) G s0 (takes_look hst hf) passes_look ?_).sim E A σ H G δ W (Same.refl G) R S eo h
  intro σ1 δ1 G1 s1 S1 n1 fs od G2 H2 W2 s2 R2 hx hw
  obtain ⟨g, hg, hw⟩ := hw
  exact hh.sim (s0.trans (s1.trans s2)) R2 (S1.up s2) (eo.up (s1.trans s2)) hx hg hw
end
theorem go_tryM {ab : AW → AS} {hs : List ACl} {A : AEnds} {δ : Sl} {W : Wd} (h : ab (fun δ' n fs W' => ∃ h ∈ hs, h.go n fs A δ' W') A δ W) : aTryM ab hs A δ W := h
section
variable {hs : List ACl} {n f : Str} {fo : Option Str} {i : Nat} {asu : Addr → D → AS} {A : AEnds} {δ : Sl} {W : Wd} {fs : List (Str × D)} {v : D}
theorem goM_nn (j : Nat) (e : hs[j]? = some ⟨n, fo, none, asu⟩) (q : asu 0 .non A δ W) : ∃ h ∈ hs, h.go n fs A δ W := ⟨_, List.mem_of_getElem? e, rfl, q⟩
theorem goM_yes (j : Nat) (e : hs[j]? = some ⟨n, some f, some i, asu⟩) (q : ∀ a, W a = none → asu a v (Acut i A) (δ.set i (some (.ptr a))) W) : ∃ h ∈ hs, h.go n [(f, v)] A δ W := ⟨_, List.mem_of_getElem? e, rfl, v, rfl, q⟩
end
end DL

namespace DL
open PySem PySem.Spec PyProof.Rows L2
theorem put_sizeE {t u : Trm} {p : List Int} (h : Pos t p) : (t.put p u).size + (t.at p).size = t.size + u.size := by
  induction h with
  | nil => rw [Trm.put, Trm.at]; omega
  | @cons f ts i t p h0 h1 _ ih =>
    rw [put_cons h1, at_cons h1, Trm.size, Trm.size]
    have := sizes_set (x := t.put p u) h1
    omega
theorem put_depthM {t u : Trm} {p : List Int} (h : Pos t p) : (t.put p u).depth ≤ max t.depth (p.length + u.depth) := by
  induction h with
  | nil => rw [Trm.put]; simp; omega
  | @cons f ts i t p h0 h1 _ ih =>
    rw [put_cons h1, Trm.depth, Trm.depth, List.length_cons]
    have m := Trm.depths_le (List.mem_of_getElem? h1)
    have : Trm.depths (ts.set (i - 1).toNat (t.put p u)) ≤ max (Trm.depths ts) (p.length + u.depth) := (depths_le_iff _).mpr fun x hx => by
      rcases mem_set hx with hx | e
      · have := Trm.depths_le hx; omega
      · rw [e]; omega
    omega
/-- what is wrong at this node: is its name unknown; its name -/
def badAt (ops : Sig) : Trm → Option (Bool × Str)
  | .var _ => none
  | .app f ts => if f ∈ ops.map Prod.fst then (if (f, ts.length) ∈ ops then none else some (false, f)) else some (true, f)
mutual
def Trm.bad (ops : Sig) : Trm → Option (Bool × Str)
  | .var _ => none
  | .app f ts => match badAt ops (.app f ts) with
    | some x => some x
    | none => Trm.bads ops ts
def Trm.bads (ops : Sig) : List Trm → Option (Bool × Str)
  | [] => none
  | t :: ts => match t.bad ops with
    | some x => some x
    | none => Trm.bads ops ts
end
theorem bad_app {ops : Sig} {f : Str} {ts : List Trm} : (Trm.app f ts).bad ops = (badAt ops (.app f ts)).or (Trm.bads ops ts) := by
  rw [Trm.bad]
  cases badAt ops (.app f ts) <;> rfl
theorem bads_cons {ops : Sig} {t : Trm} {ts : List Trm} : Trm.bads ops (t :: ts) = (t.bad ops).or (Trm.bads ops ts) := by
  rw [Trm.bads]
  cases t.bad ops <;> rfl
theorem badAt_yes {ops : Sig} {f : Str} {ts : List Trm} (h : f ∈ ops.map Prod.fst) (hm : (f, ts.length) ∈ ops) : badAt ops (.app f ts) = none := by
  show (if f ∈ ops.map Prod.fst then (if (f, ts.length) ∈ ops then none else some (false, f)) else some (true, f)) = none
  rw [if_pos h, if_pos hm]
theorem badAt_ar {ops : Sig} {f : Str} {ts : List Trm} (h : f ∈ ops.map Prod.fst) (hm : (f, ts.length) ∉ ops) : badAt ops (.app f ts) = some (false, f) := by
  show (if f ∈ ops.map Prod.fst then (if (f, ts.length) ∈ ops then none else some (false, f)) else some (true, f)) = _
  rw [if_pos h, if_neg hm]
theorem badAt_no {ops : Sig} {f : Str} {ts : List Trm} (h : f ∉ ops.map Prod.fst) : badAt ops (.app f ts) = some (true, f) := by
  show (if f ∈ ops.map Prod.fst then (if (f, ts.length) ∈ ops then none else some (false, f)) else some (true, f)) = _
  rw [if_neg h]
theorem go_neSS {a b : Str} {W : Wd} {Q : DQ} (h : Q (.bl false) W) : dNe (.tup [.str a, .str b]) (.tup [.str a, .str b]) W Q := by
  have hd : (D.tup [.str a, .str b]).py.depth ≤ 5 := by simp [D.py, D.pys, PyData.depth, PyData.depthAll]
  refine ⟨⟨rfl, rfl, by omega⟩, ?_⟩
  rw [show (D.tup [.str a, .str b]).eqv (.tup [.str a, .str b]) = true from by
    show PyData.eqv _ _ = true
    rw [D.py, PyData.eqv]
    exact eqvAll_self fun d hd => by
      simp only [List.mem_cons, List.not_mem_nil, or_false] at hd
      rcases hd with rfl | rfl <;> simp [D.py, PyData.eqv]]
  exact h
end DL

namespace DL
open PySem PySem.Spec PyProof.Rows L2
theorem at_put {t u : Trm} {p : List Int} (h : t.isPos p = true) : (t.put p u).at p = u := by
  induction p generalizing t with
  | nil => rw [Trm.put, Trm.at]
  | cons i p ih =>
    obtain ⟨f, ts, x, rfl, h1, h2, h3⟩ := isPos_step h
    have hl : (i - 1).toNat < ts.length := by
      by_cases g : (i - 1).toNat < ts.length
      · exact g
      · rw [List.getElem?_eq_none (by omega)] at h2; cases h2
    rw [put_cons h2, at_cons (List.getElem?_set_self hl), ih h3]
mutual
theorem mt_nd : ∀ (p t : Trm) (s : Sb), (s.map (·.1)).Nodup → ((mt p t s).2.map (·.1)).Nodup
  | .var v, t, s, h => by
    rw [mt]
    split
    · exact h
    · rename_i e
      rw [List.map_append, List.map_singleton, List.nodup_append]
      refine ⟨h, by simp, fun a ha b hb => ?_⟩
      rw [List.mem_singleton] at hb
      subst hb
      intro z
      obtain ⟨x, hx, rfl⟩ := List.mem_map.mp ha
      unfold Sb.get at e
      rw [Option.map_eq_none_iff, List.find?_eq_none] at e
      exact e x hx (by simpa using z)
  | .app f ps, .app g ts, s, h => by
    rw [mt]
    split
    · exact mts_nd ps ts s h
    · exact h
  | .app _ _, .var _, s, h => by rw [mt]; exact h
theorem mts_nd : ∀ (ps ts : List Trm) (s : Sb), (s.map (·.1)).Nodup → ((mts ps ts s).2.map (·.1)).Nodup
  | [], ts, s, h => by rw [mts] <;> first | exact h | simp
  | p :: ps, [], s, h => by rw [mts] <;> first | exact h | simp
  | p :: ps, t :: ts, s, h => by
    rw [mts]
    have := mt_nd p t s h
    split
    · exact mts_nd ps ts (mt p t s).2 this
    · exact this
end
theorem redAt_nd {rs : List Ru} {t : Trm} {p : List Int} {x : Stp} (h : x ∈ redAt rs t p) : (x.2.2.map (·.1)).Nodup := by
  obtain ⟨_, _, _, _, e⟩ := redAt_mem h
  rw [e]
  exact mt_nd _ _ _ (by simp)
/-- too large -/
def Trm.big (t : Trm) : Bool := decide (30 < t.depth) || decide (400 < t.size)
def rhs (rs : List Ru) (x : Stp) : Trm := ((rs[x.1]?).getD (.var 0, .var 0)).2
def stp (rs : List Ru) (t : Trm) (x : Stp) : Trm := t.put x.2.1 ((rhs rs x).sub x.2.2.fn)
theorem sub_depth0 {s : Int → Trm} {d : Nat} (hs : ∀ v, (s v).depth ≤ d) (t : Trm) : (t.sub s).depth ≤ t.depth + d := by
  induction t using Trm.ind with
  | hv v => show (s v).depth ≤ _; have := hs v; omega
  | ha f ts ih =>
    rw [sub_app, Trm.depth, Trm.depth]
    have : Trm.depths (ts.map (Trm.sub s)) ≤ Trm.depths ts + d := (depths_le_iff _).mpr fun x hx => by
      obtain ⟨u, hu, rfl⟩ := List.mem_map.mp hx
      have := ih u hu
      have := Trm.depths_le hu
      omega
    omega
theorem sub_size0 {s : Int → Trm} {d : Nat} (hd : 1 ≤ d) (hs : ∀ v, (s v).size ≤ d) (t : Trm) : (t.sub s).size ≤ t.size * d := by
  induction t using Trm.ind with
  | hv v => show (s v).size ≤ _; have := hs v; rw [Trm.size]; omega
  | ha f ts ih =>
    rw [sub_app, Trm.size, Trm.size, Nat.add_mul, Nat.one_mul]
    have : Trm.sizes (ts.map (Trm.sub s)) ≤ Trm.sizes ts * d := by
      clear hs
      induction ts with
      | nil => simp [Trm.sizes]
      | cons t ts ih2 =>
        rw [List.map_cons, Trm.sizes, Trm.sizes, Nat.add_mul]
        have := ih t List.mem_cons_self
        have := ih2 fun u hu => ih u (List.mem_cons_of_mem _ hu)
        omega
    omega
theorem fn_le {s : Sb} {d : Nat} (hd : 1 ≤ d) (h : ∀ vt ∈ s, vt.2.depth ≤ d) (v : Int) : (s.fn v).depth ≤ d := by
  unfold Sb.fn
  cases e : s.get v with
  | none => exact hd
  | some t => exact h _ (get_mem e)
theorem fn_le2 {s : Sb} {d : Nat} (hd : 1 ≤ d) (h : ∀ vt ∈ s, vt.2.size ≤ d) (v : Int) : (s.fn v).size ≤ d := by
  unfold Sb.fn
  cases e : s.get v with
  | none => exact hd
  | some t => exact h _ (get_mem e)
theorem stp_le {rs : List Ru} {t : Trm} {x : Stp} {p : List Int} {a b : Nat} (hr : ∀ r ∈ rs, r.2.depth ≤ a ∧ r.2.size ≤ b) (hp : t.isPos p = true) (hx : x ∈ redAt rs t p) : (stp rs t x).depth ≤ t.depth + a ∧ (stp rs t x).size ≤ t.size + b * t.size := by
  obtain ⟨r, hr1, e1, hm, e2⟩ := redAt_mem hx
  have hk : rhs rs x = r.2 := by unfold rhs; rw [hr1]; rfl
  obtain ⟨h1, h2⟩ := hr r (List.mem_of_getElem? hr1)
  have az := at_size hp
  have sm : ∀ vt ∈ x.2.2, vt.2.depth ≤ (t.at p).depth ∧ vt.2.size ≤ (t.at p).size := fun vt hv => by
    rw [e2] at hv
    rcases mt_sub _ _ _ vt hv with h | h
    · cases h
    · exact h
  have hdp := (t.at p).depth_pos
  have hsp := (t.at p).size_pos
  have d1 := sub_depth0 (s := x.2.2.fn) (d := (t.at p).depth) (fn_le hdp fun vt h => (sm vt h).1) r.2
  have d2 := sub_size0 (s := x.2.2.fn) (d := (t.at p).size) hsp (fn_le2 hsp fun vt h => (sm vt h).2) r.2
  unfold stp
  rw [hk, e1]
  have e3 := put_depthM (u := r.2.sub x.2.2.fn) (pos_of hp)
  have e4 := put_size (u := r.2.sub x.2.2.fn) (pos_of hp)
  refine ⟨by omega, Nat.le_trans e4 ?_⟩
  have : r.2.size * (t.at p).size ≤ b * t.size := Nat.mul_le_mul h2 az.1
  omega
end DL

namespace DL
open PySem PySem.Spec PyProof.Rows L2
theorem iposs_in {x : Trm} {q : List Int} : ∀ {ts : List Trm} {i : Int} {j : Nat}, ts[j]? = some x → q ∈ x.ipos → (i + j) :: q ∈ Trm.iposs i ts
  | t :: ts, i, 0, h, hq => by
    simp at h
    subst h
    rw [Trm.iposs]
    exact List.mem_append_left _ (by simpa using hq)
  | t :: ts, i, j + 1, h, hq => by
    rw [Trm.iposs]
    refine List.mem_append_right _ ?_
    have := iposs_in (i := i + 1) (j := j) (by simpa using h) hq
    rw [show i + ((j + 1 : Nat) : Int) = i + 1 + (j : Int) by omega]
    exact this
theorem mem_ipos (t : Trm) : ∀ p, t.isPos p = true → p ∈ t.ipos := by
  induction t using Trm.ind with
  | hv n =>
    intro p hp
    cases p with
    | nil => simp [Trm.ipos]
    | cons i p => simp [Trm.isPos] at hp
  | ha f ts ih =>
    intro p hp
    rw [Trm.ipos]
    cases p with
    | nil => exact List.mem_append_right _ (by simp)
    | cons i p =>
      obtain ⟨g, us, x, e, h1, h2, h3⟩ := isPos_step hp
      cases e
      have := iposs_in (i := 1) h2 (ih x (List.mem_of_getElem? h2) p h3)
      rw [show (1 : Int) + (((i - 1).toNat : Nat) : Int) = i by omega] at this
      exact List.mem_append_left _ this
end DL

namespace DL
open PySem PySem.Spec PyProof.Rows L2
theorem nub_app2 : ∀ (ns ms acc : List Int), nub acc (ns ++ ms) = nub (nub acc ns) ms
  | [], ms, acc => rfl
  | n :: ns, ms, acc => by rw [List.cons_append, nub, nub, nub_app2 ns ms]
theorem nub_all : ∀ {ns acc : List Int}, (∀ x ∈ ns, x ∈ acc) → nub acc ns = acc
  | [], acc, _ => rfl
  | n :: ns, acc, h => by
    rw [nub, if_pos (h n List.mem_cons_self)]
    exact nub_all fun x hx => h x (List.mem_cons_of_mem _ hx)
theorem get_key {s : Sb} {v : Int} {t : Trm} (h : s.get v = some t) : v ∈ s.map (·.1) := List.mem_map_of_mem (f := (·.1)) (get_mem h)
theorem get_nokey {s : Sb} {v : Int} (h : s.get v = none) : v ∉ s.map (·.1) := fun z => by
  obtain ⟨x, hx, rfl⟩ := List.mem_map.mp z
  unfold Sb.get at h
  rw [Option.map_eq_none_iff, List.find?_eq_none] at h
  exact h x hx (by simp)
mutual
theorem mt_snd : ∀ (p t : Trm) (s : Sb), (mt p t s).1 = true → (∀ v u, s.get v = some u → (mt p t s).2.get v = some u) ∧ (∀ s' : Sb, (∀ v u, (mt p t s).2.get v = some u → s'.get v = some u) → p.sub s'.fn = t) ∧ (mt p t s).2.map (·.1) = nub (s.map (·.1)) (occ p)
  | .var v, t, s, h => by
    have eo : occ (.var v) = [v] := by simp [occ, Trm.syms, Sy.int?]
    rw [eo]
    cases e : s.get v with
    | some u =>
      have em : mt (.var v) t s = (decide (u = t), s) := by rw [mt]; simp [e]
      rw [em] at h ⊢
      have hu : u = t := of_decide_eq_true h
      subst hu
      refine ⟨fun _ _ z => z, fun s' hs => ?_, ?_⟩
      · show s'.fn v = u
        unfold Sb.fn
        rw [hs v u e]; rfl
      · show s.map (·.1) = nub (s.map (·.1)) [v]
        rw [nub, if_pos (get_key e)]; rfl
    | none =>
      have em : mt (.var v) t s = (true, s ++ [(v, t)]) := by rw [mt]; simp [e]
      rw [em] at h ⊢
      refine ⟨fun w u z => ?_, fun s' hs => ?_, ?_⟩
      · show Sb.get (s ++ [(v, t)]) w = some u
        rw [get_snoc, z]; rfl
      · show s'.fn v = t
        unfold Sb.fn
        rw [hs v t (by show Sb.get (s ++ [(v, t)]) v = some t; rw [get_snoc, e]; simp)]; rfl
      · show (s ++ [(v, t)]).map (·.1) = nub (s.map (·.1)) [v]
        rw [nub, if_neg (get_nokey e), List.map_append]; rfl
  | .app f ps, .app g ts, s, h => by
    by_cases hc : f = g ∧ ps.length = ts.length
    · have em : mt (.app f ps) (.app g ts) s = mts ps ts s := by rw [mt, if_pos hc]
      rw [em] at h ⊢
      obtain ⟨h1, h2, h3⟩ := mts_snd ps ts s hc.2 h
      refine ⟨h1, fun s' hs => ?_, by rw [occ_app]; exact h3⟩
      rw [sub_app, h2 s' hs, hc.1]
    · have em : mt (.app f ps) (.app g ts) s = (false, s) := by rw [mt, if_neg hc]
      rw [em] at h
      cases h
  | .app _ _, .var _, s, h => by rw [mt] at h; cases h
theorem mts_snd : ∀ (ps ts : List Trm) (s : Sb), ps.length = ts.length → (mts ps ts s).1 = true → (∀ v u, s.get v = some u → (mts ps ts s).2.get v = some u) ∧ (∀ s' : Sb, (∀ v u, (mts ps ts s).2.get v = some u → s'.get v = some u) → ps.map (Trm.sub s'.fn) = ts) ∧ (mts ps ts s).2.map (·.1) = nub (s.map (·.1)) ((Trm.symss ps).filterMap Sy.int?)
  | [], [], s, _, h => by
    have em : mts [] [] s = (true, s) := by simp [mts]
    rw [em]
    exact ⟨fun _ _ z => z, fun _ _ => rfl, rfl⟩
  | p :: ps, [], s, hl, h => by simp at hl
  | [], t :: ts, s, hl, h => by simp at hl
  | p :: ps, t :: ts, s, hl, h => by
    by_cases hm : (mt p t s).1 = true
    · have em : mts (p :: ps) (t :: ts) s = mts ps ts (mt p t s).2 := by rw [mts, if_pos hm]
      rw [em] at h ⊢
      obtain ⟨a1, a2, a3⟩ := mt_snd p t s hm
      obtain ⟨b1, b2, b3⟩ := mts_snd ps ts (mt p t s).2 (by simpa using hl) h
      refine ⟨fun v u z => b1 v u (a1 v u z), fun s' hs => ?_, ?_⟩
      · rw [List.map_cons, a2 s' fun v u z => hs v u (b1 v u z), b2 s' hs]
      · rw [b3, a3, Trm.symss, List.filterMap_append, nub_app2]; rfl
    · have em : (mts (p :: ps) (t :: ts) s).1 = false := by rw [mts, if_neg hm]
      rw [em] at h
      cases h
end
/-- what a redex of a rule tells -/
theorem redAt_fits {rs : List Ru} {t : Trm} {p : List Int} {x : Stp} (h : x ∈ redAt rs t p) : ∃ r, rs[x.1]? = some r ∧ x.2.1 = p ∧ r.1.sub x.2.2.fn = t.at p ∧ x.2.2.map (·.1) = r.1.vars := by
  obtain ⟨r, h1, h2, h3, h4⟩ := redAt_mem h
  obtain ⟨_, b, c⟩ := mt_snd _ _ _ h3
  rw [← h4] at b c
  exact ⟨r, h1, h2, b _ fun _ _ z => z, c⟩
end DL

namespace DL
open PySem PySem.Spec PyProof.Rows L2 RT
section
variable {X : Cx} {G0 : Hp} {pos p : PySem.Pos} {k v e tg : Expr} {tk tv te : TE} {ak av ae : AE}
def aDisp1 (own : Bool) (ak av : AE) : AE := fun δ W Q => ∀ p, W p = none → ak δ (W.set p (.dk [])) fun y W1 => av δ W1 fun z W2 => ∃ key, keyOf y = some key ∧ W2 p = some (.dk []) ∧ if own = true then Q (.ptr p) (W2.set p (.dk [(key, z)])) else Q (.dk [(key, z)]) (W2.del p)
def aiRev (a : AE) : AI := fun δ W N => a δ W fun d W1 => ∃ ds, lstRd W1 d = some ds ∧ N ds.reverse (okOf d ds) W1
end
section
variable {own : Bool} {ak av a : AE} {δ : Sl} {W : Wd} {Q : DQ}
theorem go_disp1 (h : ∀ p, W p = none → ak δ (W.set p (.dk [])) fun y W1 => av δ W1 fun z W2 => ∃ key, keyOf y = some key ∧ W2 p = some (.dk []) ∧ if own = true then Q (.ptr p) (W2.set p (.dk [(key, z)])) else Q (.dk [(key, z)]) (W2.del p)) : aDisp1 own ak av δ W Q := h
theorem go_irev {N : List D → (Wd → Prop) → Wd → Prop} (h : a δ W fun d W1 => ∃ ds, lstRd W1 d = some ds ∧ N ds.reverse (okOf d ds) W1) : aiRev a δ W N := h
end
end DL

namespace DL
open PySem PySem.Spec PyProof.Rows L2
/-- a step by its parts: is it given (or a stage), its number, forward, place, values -/
structure Stq where
  giv : Bool
  i : Int
  fwd : Bool
  p : List Int
  s : Sb
def kindS (b : Bool) : Str := if b = true then "given" else "stage"
def Stq.src (x : Stq) : D := .tup [.str (kindS x.giv), .int x.i]
def Stq.d (x : Stq) : D := .tup [x.src, .bl x.fwd, posD x.p, .dk (dkS x.s)]
end DL

namespace DL
open PySem PySem.Spec PyProof.Rows L2
theorem Pos.sub {t : Trm} {p : List Int} {f : Int → Trm} (h : Pos t p) : Pos (t.sub f) p := by
  induction h with
  | nil => exact .nil
  | @cons g ts i t p h0 h1 _ ih =>
    rw [sub_app]
    exact .cons h0 (by rw [List.getElem?_map, h1]; rfl) ih
theorem sub_put {t u : Trm} {p : List Int} {f : Int → Trm} (h : Pos t p) : (t.put p u).sub f = (t.sub f).put p (u.sub f) := by
  induction h with
  | nil => rw [Trm.put, Trm.put]
  | @cons g ts i t p h0 h1 _ ih =>
    rw [put_cons h1, sub_app, sub_app, put_cons (t := t.sub f) (by rw [List.getElem?_map, h1]; rfl), List.map_set, ih]
/-- the new side of a step: drawn, or drawn with the fresh variable somewhere; its instance is small -/
theorem new_bounds {m w x : Trm} {f : Int → Trm} (hw : w = m ∨ ∃ r, m.isPos r = true ∧ w = m.put r (.var 9)) (md : m.depth ≤ 2) (mz : m.size ≤ 4) (hf : ∀ v ∈ occ m, (f v).depth ≤ 2 ∧ (f v).size ≤ 4) (hx : f 9 = x) : (w.sub f).depth ≤ x.depth + 3 ∧ (w.sub f).size ≤ x.size + 15 := by
  have e : m.sub f = m.sub fun v => if v ∈ occ m then f v else .var 0 := sub_congr m fun v hv => by rw [if_pos hv]
  have a : ∀ v, ((fun v => if v ∈ occ m then f v else Trm.var 0) v).depth ≤ 2 := fun v => by
    show (if v ∈ occ m then f v else Trm.var 0).depth ≤ 2
    split
    · rename_i h; exact (hf v h).1
    · rw [Trm.depth]; decide
  have b : ∀ v, ((fun v => if v ∈ occ m then f v else Trm.var 0) v).size ≤ 4 := fun v => by
    show (if v ∈ occ m then f v else Trm.var 0).size ≤ 4
    split
    · rename_i h; exact (hf v h).2
    · rw [Trm.size]; decide
  have c := sub_depth0 a m
  have d := sub_size0 (by decide) b m
  rw [← e] at c d
  have x1 := x.depth_pos
  have x2 := x.size_pos
  rcases hw with rfl | ⟨r, hr, rfl⟩
  · exact ⟨by omega, by omega⟩
  · rw [sub_put (pos_of hr)]
    have ev : (Trm.var 9).sub f = x := by rw [Trm.sub]; exact hx
    rw [ev]
    have h1 := put_sizeE (u := x) (Pos.sub (f := f) (pos_of hr))
    have h2 := put_depthM (u := x) (Pos.sub (f := f) (pos_of hr))
    have h3 := at_size hr
    have h4 := (m.at r).depth_pos
    have h5 := ((m.sub f).at r).size_pos
    exact ⟨by omega, by omega⟩
end DL

namespace DL
open PySem PySem.Spec PyProof.Rows L2
/-- the equation that the step names -/
def eqAt (gs ss : List Ru) (x : Stq) : Option Ru := if x.i < 0 then none else (if x.giv = true then gs else ss)[x.i.toNat]?
/-- its keys are the variables of both sides -/
def bnd (s : Sb) (l r : Trm) : Bool := decide (s.length = (nub l.vars r.vars).length) && (nub l.vars r.vars).all fun v => decide (v ∈ s.map (·.1))
def Stq.old (x : Stq) (e : Ru) : Trm := if x.fwd = true then e.1 else e.2
def Stq.new (x : Stq) (e : Ru) : Trm := if x.fwd = true then e.2 else e.1
def nxtE (t : Trm) (x : Stq) (e : Ru) : Option Trm := if t.isPos x.p = true ∧ bnd x.s e.1 e.2 = true ∧ t.at x.p = (x.old e).sub x.s.fn then some (t.put x.p ((x.new e).sub x.s.fn)) else none
def nxt (gs ss : List Ru) (t : Trm) (x : Stq) : Option Trm := (eqAt gs ss x).bind (nxtE t x)
def follow (gs ss : List Ru) : Trm → List Stq → Option Trm
  | t, [] => some t
  | t, x :: xs => (nxt gs ss t x).bind fun u => follow gs ss u xs
theorem follow_app (gs ss : List Ru) : ∀ (xs ys : List Stq) (t : Trm), follow gs ss t (xs ++ ys) = (follow gs ss t xs).bind fun u => follow gs ss u ys
  | [], ys, t => rfl
  | x :: xs, ys, t => by
    rw [List.cons_append, follow, follow]
    cases h : nxt gs ss t x with
    | none => rfl
    | some u => exact follow_app gs ss xs ys u
theorem nodup_sub_len {α : Type} [DecidableEq α] : ∀ {a b : List α}, a.Nodup → (∀ x ∈ a, x ∈ b) → a.length ≤ b.length
  | [], _, _, _ => Nat.zero_le _
  | y :: a, b, h, hs => by
    obtain ⟨h1, h2⟩ := List.nodup_cons.mp h
    have hy := hs y List.mem_cons_self
    have ih := nodup_sub_len (a := a) (b := b.erase y) h2 fun x hx => (List.mem_erase_of_ne fun e => h1 (by rw [← e]; exact hx)).mpr (hs x (List.mem_cons_of_mem _ hx))
    have e := List.length_erase_of_mem hy
    have hp : 0 < b.length := List.length_pos_of_mem hy
    rw [List.length_cons]; omega
theorem nodup_sub_eq {α : Type} [DecidableEq α] {a b : List α} (ha : a.Nodup) (hs : ∀ x ∈ a, x ∈ b) (hl : b.length ≤ a.length) : ∀ x ∈ b, x ∈ a := fun x hx => by
  by_cases h : x ∈ a
  · exact h
  · have := nodup_sub_len (a := x :: a) (b := b) (List.nodup_cons.mpr ⟨h, ha⟩) fun y hy => by
      rcases List.mem_cons.mp hy with rfl | hy
      · exact hx
      · exact hs y hy
    rw [List.length_cons] at this; omega
theorem mem_nub2 {l r : Trm} {v : Int} : v ∈ nub l.vars r.vars ↔ v ∈ occ l ∨ v ∈ occ r := by
  constructor
  · intro h
    rcases nub_sub _ _ h with h | h
    · exact .inl (mem_vars.mp h)
    · exact .inr (mem_vars.mp h)
  · rintro (h | h)
    · exact nub_memL _ _ (mem_vars.mpr h)
    · exact nub_memR _ _ (mem_vars.mpr h)
theorem bnd_iff {s : Sb} {l r : Trm} (nd : (s.map (·.1)).Nodup) : bnd s l r = true ↔ ∀ v, v ∈ s.map (·.1) ↔ v ∈ occ l ∨ v ∈ occ r := by
  have hn : (nub l.vars r.vars).Nodup := nub_nodup _ _ (vars_nodup l)
  unfold bnd
  rw [Bool.and_eq_true, decide_eq_true_eq, List.all_eq_true]
  constructor
  · rintro ⟨h1, h2⟩ v
    have h2 : ∀ v ∈ nub l.vars r.vars, v ∈ s.map (·.1) := fun v hv => of_decide_eq_true (h2 v hv)
    rw [← mem_nub2]
    exact ⟨fun h => nodup_sub_eq hn h2 (by rw [List.length_map]; omega) v h, h2 v⟩
  · intro h
    have a : ∀ v ∈ nub l.vars r.vars, v ∈ s.map (·.1) := fun v hv => (h v).mpr (mem_nub2.mp hv)
    have b : ∀ v ∈ s.map (·.1), v ∈ nub l.vars r.vars := fun v hv => mem_nub2.mpr ((h v).mp hv)
    have c := nodup_sub_len hn a
    have d := nodup_sub_len nd b
    rw [List.length_map] at c d
    exact ⟨by omega, fun v hv => decide_eq_true (a v hv)⟩
theorem bnd_swap {s : Sb} {l r : Trm} (nd : (s.map (·.1)).Nodup) : bnd s l r = bnd s r l := by
  rw [Bool.eq_iff_iff, bnd_iff nd, bnd_iff nd]
  exact ⟨fun h v => (h v).trans Or.comm, fun h v => (h v).trans Or.comm⟩
def Stq.flip (x : Stq) : Stq := { x with fwd := !x.fwd }
theorem nxtE_flip {t u : Trm} {x : Stq} {e : Ru} (h : nxtE t x e = some u) : nxtE u x.flip e = some t := by
  unfold nxtE at h ⊢
  split at h
  · rename_i hc
    obtain ⟨h1, h2, h3⟩ := hc
    cases h
    have eo : x.flip.old e = x.new e := by unfold Stq.flip Stq.old Stq.new; cases x.fwd <;> rfl
    have en : x.flip.new e = x.old e := by unfold Stq.flip Stq.old Stq.new; cases x.fwd <;> rfl
    rw [eo, en]
    rw [if_pos ⟨put_isPos h1, h2, at_put h1⟩]
    show some ((t.put x.p _).put x.p ((x.old e).sub x.s.fn)) = some t
    rw [← h3, put_back h1]
  · cases h
inductive All2 {α β : Type} (R : α → β → Prop) : List α → List β → Prop
  | nil : All2 R [] []
  | cons {x : α} {y : β} {xs : List α} {ys : List β} (h : R x y) (r : All2 R xs ys) : All2 R (x :: xs) (y :: ys)
structure StqSm (x : Stq) (n w : Nat) : Prop where
  i0 : -1000 ≤ x.i
  i1 : x.i ≤ 1000
  p : ∀ j ∈ x.p, -1000 ≤ j ∧ j ≤ 1000
  pl : x.p.length ≤ 200
  sl : x.s.length ≤ 40
  s : ∀ vt ∈ x.s, (-1000 ≤ vt.1 ∧ vt.1 ≤ 1000) ∧ Tn vt.2 ∧ vt.2.depth ≤ n ∧ vt.2.size ≤ w
theorem get_isSome {s : Sb} {v : Int} : (s.get v).isSome = decide (v ∈ s.map (·.1)) := by
  cases h : s.get v with
  | some y => rw [decide_eq_true (get_key h)]; rfl
  | none => rw [decide_eq_false (get_nokey h)]; rfl
theorem dkOf_grow {W W' : Wd} {d : D} {kds : List (Key × D)} (g : Grow W W') (h : dkOf W d = some kds) : dkOf W' d = some kds := by
  cases d with
  | dk k2 => exact h
  | ptr l =>
    unfold dkOf at h ⊢
    cases e : W l with
    | none => simp [e] at h
    | some o => dsimp only at h ⊢; rw [e] at h; rw [g l o e]; exact h
  | _ => simp [dkOf] at h
/-- sides of equations, not too large -/
def EqsOk (gs : List Ru) : Prop := gs.length ≤ 100000 ∧ ∀ e ∈ gs, e.1.depth ≤ 140 ∧ e.1.size ≤ 100000 ∧ e.2.depth ≤ 140 ∧ e.2.size ≤ 100000
end DL

namespace DL
open PySem PySem.Spec PyProof.Rows L2
structure StpK (ops : Sig) (t old new : Trm) (p : List Int) (s : Sb) (t' : Trm) : Prop where
  pos : t.isPos p = true
  fit : old.sub s.fn = t.at p
  to : t' = t.put p (new.sub s.fn)
  nd : (s.map (·.1)).Nodup
  keys : ∀ v, v ∈ s.map (·.1) ↔ v ∈ occ old ∨ v ∈ occ new
  nine : (9 : Int) ∈ s.map (·.1)
  no : (9 : Int) ∈ occ old
  wo : Wf ops 10 old
  wn : Wf ops 10 new
  vals : ∀ vt ∈ s, (0 ≤ vt.1 ∧ vt.1 < 10) ∧ Wf ops 9 vt.2 ∧ vt.2.depth ≤ t.depth + 1 ∧ vt.2.size ≤ t.size + 4
  od : old.depth ≤ t.depth + 1
  oz : old.size ≤ t.size + 1
  nw : new.depth ≤ 3
  nz : new.size ≤ 5
  w : Wf ops 9 t'
  d : t'.depth ≤ t.depth + 4
  z : t'.size ≤ t.size + 16
/-- steps by equations of their own, drawn one after another -/
inductive ChK (ops : Sig) (first : Nat) (t : Trm) : List Ru → List Stq → List Trm → Trm → Prop
  | nil : ChK ops first t [] [] [] t
  | snoc {gs : List Ru} {xs : List Stq} {ts : List Trm} {u u' old new : Trm} {p : List Int} {s : Sb} (b : Bool) (h : ChK ops first t gs xs ts u) (k : StpK ops u old new p s u') :
      ChK ops first t (gs ++ [if b = true then (old, new) else (new, old)]) (xs ++ [⟨true, ((first + xs.length : Nat) : Int), b, p, s⟩]) (ts ++ [u']) u'
theorem ChK.len {ops : Sig} {first : Nat} {t u : Trm} {gs : List Ru} {xs : List Stq} {ts : List Trm} (h : ChK ops first t gs xs ts u) : gs.length = xs.length ∧ ts.length = xs.length := by
  induction h with
  | nil => exact ⟨rfl, rfl⟩
  | snoc b h k ih => simp [ih.1, ih.2]
theorem ChK.ok {ops : Sig} {first : Nat} {t u : Trm} {gs : List Ru} {xs : List Stq} {ts : List Trm} (h : ChK ops first t gs xs ts u) (ht : Wf ops 9 t) : Wf ops 9 u ∧ u.depth ≤ t.depth + 4 * xs.length ∧ u.size ≤ t.size + 16 * xs.length ∧ (t :: ts).getLast? = some u := by
  induction h with
  | nil => exact ⟨ht, by simp, by simp, rfl⟩
  | snoc b h k ih =>
    obtain ⟨a, b, c, d⟩ := ih
    refine ⟨k.w, ?_, ?_, ?_⟩
    · have := k.d; rw [List.length_append, List.length_singleton]; omega
    · have := k.z; rw [List.length_append, List.length_singleton]; omega
    · rw [← List.cons_append, List.getLast?_concat]
theorem pos_small {ops : Sig} {n : Int} (hO : Ops ops) : ∀ {p : List Int} {t : Trm}, Wf ops n t → t.isPos p = true → ∀ i ∈ p, 1 ≤ i ∧ i ≤ 3
  | [], _, _, _, i, h => by cases h
  | j :: p, t, ht, hp, i, h => by
    obtain ⟨f, ts, x, rfl, h1, h2, h3⟩ := isPos_step hp
    obtain ⟨hm, hw⟩ := ht.args
    have h4 := hO.le3 hm
    have hl : (j - 1).toNat < ts.length := by
      by_cases g : (j - 1).toNat < ts.length
      · exact g
      · rw [List.getElem?_eq_none (by omega)] at h2; cases h2
    rcases List.mem_cons.mp h with rfl | h
    · dsimp only at h4; omega
    · exact pos_small hO (hw x (List.mem_of_getElem? h2)) h3 i h
theorem StpK.sl {ops : Sig} {t old new t' : Trm} {p : List Int} {s : Sb} (h : StpK ops t old new p s t') : s.length ≤ 10 := by
  have := nodup_le 10 h.nd fun x hx => by
    obtain ⟨vt, hv, rfl⟩ := List.mem_map.mp hx
    exact (h.vals vt hv).1
  rw [List.length_map] at this
  exact this
theorem StpK.sm {ops : Sig} {t old new t' : Trm} {p : List Int} {s : Sb} {b : Bool} {i : Int} {g : Bool} (hO : Ops ops) (ht : Wf ops 9 t) (h : StpK ops t old new p s t') (hi : 0 ≤ i ∧ i ≤ 1000) (hd : t.depth ≤ 190) : StqSm ⟨g, i, b, p, s⟩ (t.depth + 1) (t.size + 4) where
  i0 := by dsimp only; omega
  i1 := hi.2
  p := fun j hj => by have := pos_small hO ht h.pos j hj; omega
  pl := by have := (at_size h.pos).2; dsimp only; omega
  sl := by have := h.sl; dsimp only; omega
  s := fun vt hv => by
    obtain ⟨a, b, c, d⟩ := h.vals vt hv
    exact ⟨⟨by omega, by omega⟩, b.tn hO (by decide), c, d⟩
theorem StqSm.mono {x : Stq} {n w n' w' : Nat} (h : StqSm x n w) (hn : n ≤ n') (hw : w ≤ w') : StqSm x n' w' where
  i0 := h.i0
  i1 := h.i1
  p := h.p
  pl := h.pl
  sl := h.sl
  s := fun vt hv => by obtain ⟨a, b, c, d⟩ := h.s vt hv; exact ⟨a, b, by omega, by omega⟩
theorem ChK.sm {ops : Sig} {first : Nat} {t u : Trm} {gs : List Ru} {xs : List Stq} {ts : List Trm} (hO : Ops ops) (h : ChK ops first t gs xs ts u) (ht : Wf ops 9 t) (hf : first + xs.length ≤ 1000) (hd : t.depth + 4 * xs.length ≤ 190) : ∀ x ∈ xs, x.s.length ≤ 10 ∧ StqSm x (t.depth + 4 * xs.length) (t.size + 16 * xs.length) := by
  induction h with
  | nil => intro x hx; cases hx
  | @snoc gs xs ts u u' old new p s b h k ih =>
    rw [List.length_append, List.length_singleton] at hf hd
    obtain ⟨w, d, z, _⟩ := h.ok ht
    intro x hx
    rw [List.length_append, List.length_singleton]
    rcases List.mem_append.mp hx with hx | hx
    · obtain ⟨a1, a2⟩ := ih (by omega) (by omega) x hx
      exact ⟨a1, a2.mono (by omega) (by omega)⟩
    · rw [List.mem_singleton.mp hx]
      exact ⟨k.sl, (k.sm hO w (by omega) (by omega)).mono (by omega) (by omega)⟩
theorem StpK.nxt {ops : Sig} {t old new t' : Trm} {p : List Int} {s : Sb} {b : Bool} {i : Int} {g : Bool} {gs ss : List Ru} (h : StpK ops t old new p s t') (he : eqAt gs ss ⟨g, i, b, p, s⟩ = some (if b = true then (old, new) else (new, old))) : nxt gs ss t ⟨g, i, b, p, s⟩ = some t' := by
  unfold DL.nxt
  rw [he, Option.bind_some]
  unfold nxtE Stq.old Stq.new
  have hb : bnd s old new = true := (bnd_iff h.nd).mpr h.keys
  have hb' : bnd s new old = true := by rw [bnd_swap h.nd]; exact hb
  cases b with
  | true => dsimp only; rw [if_pos rfl, if_pos rfl, if_pos rfl]; rw [if_pos ⟨h.pos, hb, h.fit.symm⟩, h.to]
  | false =>
    dsimp only
    simp only [↓reduceIte, Bool.false_eq_true]
    rw [if_pos ⟨h.pos, hb', h.fit.symm⟩, h.to]
theorem ChK.fol {ops : Sig} {first : Nat} {t u : Trm} {gs : List Ru} {xs : List Stq} {ts : List Trm} (h : ChK ops first t gs xs ts u) : ∀ (pre more ss : List Ru), pre.length = first → follow (pre ++ gs ++ more) ss t xs = some u := by
  induction h with
  | nil => intro _ _ _ _; rfl
  | @snoc gs xs ts u u' old new p s b h k ih =>
    intro pre more ss hp
    have l := h.len.1
    rw [follow_app, show pre ++ (gs ++ [if b = true then (old, new) else (new, old)]) ++ more = pre ++ gs ++ ([if b = true then (old, new) else (new, old)] ++ more) by simp, ih pre _ ss hp, Option.bind_some, follow, k.nxt]
    · rfl
    · unfold eqAt
      dsimp only
      rw [if_neg (by omega), if_pos rfl, List.getElem?_append_right (by simp; omega)]
      rw [show ((first + xs.length : Nat) : Int).toNat - (pre ++ gs).length = 0 by simp; omega]
      rfl
theorem ChK.eqs {ops : Sig} {first : Nat} {t u : Trm} {gs : List Ru} {xs : List Stq} {ts : List Trm} (h : ChK ops first t gs xs ts u) (ht : Wf ops 9 t) (n z : Nat) (hn : t.depth + 4 * xs.length + 3 ≤ n) (hz : t.size + 16 * xs.length + 5 ≤ z) : ∀ e ∈ gs, (Wf ops 10 e.1 ∧ e.1.depth ≤ n ∧ e.1.size ≤ z) ∧ Wf ops 10 e.2 ∧ e.2.depth ≤ n ∧ e.2.size ≤ z := by
  induction h with
  | nil => intro e he; cases he
  | @snoc gs xs ts u u' old new p s b h k ih =>
    rw [List.length_append, List.length_singleton] at hn hz
    obtain ⟨w, d, zz, _⟩ := h.ok ht
    intro e he
    rcases List.mem_append.mp he with he | he
    · exact ih (by omega) (by omega) e he
    · rw [List.mem_singleton.mp he]
      have a1 := k.od; have a2 := k.oz; have a3 := k.nw; have a4 := k.nz
      have a5 : Wf ops 10 old ∧ old.depth ≤ n ∧ old.size ≤ z := ⟨k.wo, by omega, by omega⟩
      have a6 : Wf ops 10 new ∧ new.depth ≤ n ∧ new.size ≤ z := ⟨k.wn, by omega, by omega⟩
      cases b with
      | true => exact ⟨a5, a6⟩
      | false => exact ⟨a6, a5⟩
/-- along the steps all terms are small -/
def FolOk (gs ss : List Ru) : Trm → List Stq → Prop
  | t, [] => t.depth ≤ 140 ∧ t.size ≤ 1000000
  | t, x :: xs => (t.depth ≤ 140 ∧ t.size ≤ 1000000) ∧ ∀ u, nxt gs ss t x = some u → FolOk gs ss u xs
theorem FolOk.here {gs ss : List Ru} {t : Trm} {xs : List Stq} (h : FolOk gs ss t xs) : t.depth ≤ 140 ∧ t.size ≤ 1000000 := by
  cases xs with
  | nil => exact h
  | cons x xs => exact h.1
theorem FolOk.app {gs ss : List Ru} : ∀ {xs ys : List Stq} {t : Trm}, FolOk gs ss t xs → (∀ u, follow gs ss t xs = some u → FolOk gs ss u ys) → FolOk gs ss t (xs ++ ys)
  | [], ys, t, h, k => k t rfl
  | x :: xs, ys, t, h, k => ⟨h.1, fun u hu => FolOk.app (h.2 u hu) fun v hv => k v (by rw [follow, hu]; exact hv)⟩
/-- what is visited is small: so it is along the steps -/
theorem FolOk.one {gs ss : List Ru} {t : Trm} {x : Stq} (h : t.depth ≤ 140 ∧ t.size ≤ 1000000) (k : ∀ u, nxt gs ss t x = some u → u.depth ≤ 140 ∧ u.size ≤ 1000000) : FolOk gs ss t [x] := ⟨h, k⟩
theorem ChK.folok {ops : Sig} {first : Nat} {t u : Trm} {gs : List Ru} {xs : List Stq} {ts : List Trm} (h : ChK ops first t gs xs ts u) (ht : Wf ops 9 t) (pre more ss : List Ru) (hp : pre.length = first) (hd : t.depth + 4 * xs.length ≤ 140) (hz : t.size + 16 * xs.length ≤ 1000000) : FolOk (pre ++ gs ++ more) ss t xs := by
  induction h generalizing more with
  | nil => simp at hd hz; exact ⟨hd, hz⟩
  | @snoc gs xs ts u u' old new p s b h k ih =>
    rw [List.length_append, List.length_singleton] at hd hz
    have hall := (h.snoc b k).fol pre more ss hp
    have e1 : pre ++ (gs ++ [if b = true then (old, new) else (new, old)]) ++ more = pre ++ gs ++ ([if b = true then (old, new) else (new, old)] ++ more) := by simp
    rw [e1] at hall ⊢
    refine (ih _ (by omega) (by omega)).app fun v hv => ?_
    rw [h.fol pre _ ss hp] at hv
    cases hv
    obtain ⟨w, d, z, _⟩ := h.ok ht
    obtain ⟨w', d', z', _⟩ := (h.snoc b k).ok ht
    rw [List.length_append, List.length_singleton] at d' z'
    refine FolOk.one ⟨by omega, by omega⟩ fun v hv => ?_
    rw [follow_app, h.fol pre _ ss hp, Option.bind_some, follow, hv, Option.bind_some] at hall
    have hall : v = u' := by simpa [follow] using hall
    rw [hall]
    exact ⟨by omega, by omega⟩
end DL

namespace DL
open PySem PySem.Spec PyProof.Rows L2
theorem put_put {t u v : Trm} {p : List Int} (h : t.isPos p = true) : (t.put p u).put p v = t.put p v := by
  induction p generalizing t with
  | nil => simp [Trm.put]
  | cons i p ih =>
    obtain ⟨f, ts, x, rfl, h1, h2, h3⟩ := isPos_step h
    have hl : (i - 1).toNat < ts.length := by
      by_cases g : (i - 1).toNat < ts.length
      · exact g
      · rw [List.getElem?_eq_none (by omega)] at h2; cases h2
    rw [put_cons h2, put_cons h2, put_cons (List.getElem?_set_self hl), ih h3, List.set_set]
theorem at_sub {t : Trm} {p : List Int} {f : Int → Trm} (h : t.isPos p = true) : (t.sub f).at p = (t.at p).sub f := by
  induction p generalizing t with
  | nil => rw [Trm.at, Trm.at]
  | cons i p ih =>
    obtain ⟨g, ts, x, rfl, h1, h2, h3⟩ := isPos_step h
    rw [sub_app, at_cons h2, at_cons (x := x.sub f) (by rw [List.getElem?_map, h2]; rfl), ih h3]
theorem nxtE_some {t u : Trm} {x : Stq} {e : Ru} (h : nxtE t x e = some u) : t.isPos x.p = true ∧ bnd x.s e.1 e.2 = true ∧ t.at x.p = (x.old e).sub x.s.fn ∧ u = t.put x.p ((x.new e).sub x.s.fn) := by
  unfold nxtE at h
  split at h
  · rename_i hc; cases h; exact ⟨hc.1, hc.2.1, hc.2.2, rfl⟩
  · cases h
theorem nxt_some {gs ss : List Ru} {t u : Trm} {x : Stq} (h : nxt gs ss t x = some u) : ∃ e, eqAt gs ss x = some e ∧ nxtE t x e = some u := by
  unfold nxt at h
  cases e : eqAt gs ss x with
  | none => rw [e] at h; cases h
  | some r => rw [e] at h; exact ⟨r, rfl, h⟩
theorem nxt_of {gs ss : List Ru} {t u : Trm} {x : Stq} {e : Ru} (h : eqAt gs ss x = some e) (k : nxtE t x e = some u) : nxt gs ss t x = some u := by unfold nxt; rw [h]; exact k
/-- the terms that steps visit -/
inductive Vis (gs ss : List Ru) (P : Trm → Prop) : Trm → List Stq → Prop
  | nil {t : Trm} (h : P t) : Vis gs ss P t []
  | cons {t u : Trm} {x : Stq} {xs : List Stq} (h : P t) (k : nxt gs ss t x = some u) (r : Vis gs ss P u xs) : Vis gs ss P t (x :: xs)
theorem Vis.folok {gs ss : List Ru} {P : Trm → Prop} (hP : ∀ t, P t → t.depth ≤ 140 ∧ t.size ≤ 1000000) {t : Trm} {xs : List Stq} (h : Vis gs ss P t xs) : FolOk gs ss t xs := by
  induction h with
  | nil h => exact hP _ h
  | cons h k r ih => exact ⟨hP _ h, fun v hv => by rw [k] at hv; cases hv; exact ih⟩
theorem Vis.snoc {gs ss : List Ru} {P : Trm → Prop} {t u v : Trm} {x : Stq} {xs : List Stq} (h : Vis gs ss P t xs) (hf : follow gs ss t xs = some u) (k : nxt gs ss u x = some v) (hv : P v) : Vis gs ss P t (xs ++ [x]) := by
  induction h with
  | nil h =>
    have e : _ = u := Option.some.inj hf
    subst e
    exact .cons h k (.nil hv)
  | cons h k' r ih => exact .cons h k' (ih (by rw [follow, k'] at hf; exact hf))
theorem ChK.vis {ops : Sig} {first : Nat} {t u : Trm} {gs : List Ru} {xs : List Stq} {ts : List Trm} (h : ChK ops first t gs xs ts u) (ht : Wf ops 9 t) (pre more ss : List Ru) (hp : pre.length = first) : Vis (pre ++ gs ++ more) ss (fun v => Wf ops 9 v ∧ v.depth ≤ t.depth + 4 * xs.length ∧ v.size ≤ t.size + 16 * xs.length) t xs := by
  have go : ∀ (n : Nat), xs.length ≤ n → Vis (pre ++ gs ++ more) ss (fun v => Wf ops 9 v ∧ v.depth ≤ t.depth + 4 * n ∧ v.size ≤ t.size + 16 * n) t xs := by
    induction h generalizing more with
    | nil => intro n _; exact .nil ⟨ht, by omega, by omega⟩
    | @snoc gs xs ts u u' old new p s b h k ih =>
      intro n hn
      rw [List.length_append, List.length_singleton] at hn
      have hall := (h.snoc b k).fol pre more ss hp
      have e1 : pre ++ (gs ++ [if b = true then (old, new) else (new, old)]) ++ more = pre ++ gs ++ ([if b = true then (old, new) else (new, old)] ++ more) := by simp
      rw [e1] at hall ⊢
      rw [follow_app, h.fol pre _ ss hp, Option.bind_some, follow] at hall
      obtain ⟨w', d', z', _⟩ := (h.snoc b k).ok ht
      rw [List.length_append, List.length_singleton] at d' z'
      cases hn2 : nxt (pre ++ gs ++ ([if b = true then (old, new) else (new, old)] ++ more)) ss u ⟨true, ((first + xs.length : Nat) : Int), b, p, s⟩ with
      | none => rw [hn2] at hall; cases hall
      | some w =>
        rw [hn2] at hall
        have hw : w = u' := by simpa [follow] using hall
        exact (ih _ n (by omega)).snoc (h.fol pre _ ss hp) hn2 (by rw [hw]; exact ⟨w', by omega, by omega⟩)
  exact go _ (Nat.le_refl _)
end DL

namespace DL
open PySem PySem.Spec PyProof.Rows L2
def aSortSet (own : Bool) (a : AE) : AE := fun δ W Q => a δ W fun d W1 => ∃ ns : List Int, lstRd W1 d = some (ns.map .int) ∧ ns.length < 64 ∧ ∀ zs : List Int, zs.Pairwise (· < ·) → (∀ k, k ∈ zs ↔ k ∈ ns) → newL own (zs.map .int) W1 Q
section
variable {X : Cx} {G0 : Hp} {p p2 pos pos2 : PySem.Pos} {e : Expr} {te : TE} {ae : AE}
def rSortA (K : PySem.W.Frag) : List V → Hp → VK → Prop := fun xs H Q => rSortedI K xs H Q ∨ ∃ (a : Addr) (kvs : List (L2.Key × V)) (ks : List Int), xs = [.ref a] ∧ Rd H a (.dK kvs) ∧ kvs.map (·.1) = ks.map Sum.inl ∧ ks.length < 64 ∧ ∀ (ys : List Int) (p : Addr), ys.Perm ks → ys.Pairwise (· ≤ ·) → H p = none → Q (.ref p) (upd H p (.lst (ys.map V.int)))
theorem call_sortA (hc : X.calm = true) : CallR X (.builtin "sorted") (rSortA X.K) := callR_or cr_sortedI (call_sortedDI hc)
def dSort (own : Bool) : RDC := fun ds W Q => ∃ d, ds = [d] ∧ ((∃ ns : List Int, lstRd W d = some (ns.map .int) ∧ ∀ ys : List Int, ys.Perm ns → ys.Pairwise (· ≤ ·) → newL own (ys.map .int) W Q) ∨
  ∃ kds ks, dkOf W d = some kds ∧ kds.map (·.1) = ks.map Sum.inl ∧ ks.length < 64 ∧ ∀ ys : List Int, ys.Perm ks → ys.Pairwise (· ≤ ·) → newL own (ys.map .int) W Q)
theorem isKs_keys {K : PySem.W.Frag} {G : Hp} : ∀ {kds : List (Key × D)} {kvs : List (Key × V)}, IsKs K G kds kvs → kvs.map (·.1) = kds.map (·.1)
  | [], _, h => by cases h; rfl
  | (k, d) :: ds, _, h => by
    obtain ⟨v, r, rfl, _, h2⟩ := h
    rw [List.map_cons, List.map_cons, isKs_keys h2]
theorem sc_sort {K : PySem.W.Frag} {own : Bool} : SimRC K (rSortA K) (dSort own) := fun G H W xs ds Q QD R hx h k => by
  obtain ⟨d, rfl, h⟩ := h
  obtain ⟨v, rfl, hv⟩ := one_of hx
  rcases h with ⟨ns, e, q⟩ | ⟨kds, ks, e, hk, hl, q⟩
  · obtain ⟨a, vs, rfl, h2, h3⟩ := lstRd_at R hv e
    cases IsDs.ints.mp h3
    exact .inl ⟨a, ns, rfl, h2, fun ys p hp hs hn => newL.go R (IsDs.ints.mpr rfl) (q ys hp hs) k p hn⟩
  · obtain ⟨a, kvs, rfl, ha, qk⟩ := dkOf_at R hv e
    exact .inr ⟨a, kvs, ks, rfl, ha, by rw [isKs_keys qk, hk], hl, fun ys p hp hs hn => newL.go R (IsDs.ints.mpr rfl) (q ys hp hs) k p hn⟩
def enumD (xs : List D) : List D := (List.range xs.length).zipWith (fun (i : Nat) d => .tup [.int i, d]) xs
def aiEnum (t : AA) : AI := fun δ W N => t δ W fun ds W1 => ∃ x xs, ds = [x] ∧ lstRd W1 x = some xs ∧ N (enumD xs) (okOf x xs) W1
variable {ta : L2.TA} {aa : AA} {elts : List Expr} {kk : Nat} {tpos : PySem.Pos}
end
section
variable {δ : Sl} {W W1 : Wd} {Q : DQ} {a : AE} {l : AA} {M : List D → (Wd → Prop) → Wd → Prop} {own : Bool} {d : D}
theorem go_sortSet (h : a δ W fun d W1 => ∃ ns : List Int, lstRd W1 d = some (ns.map .int) ∧ ns.length < 64 ∧ ∀ zs : List Int, zs.Pairwise (· < ·) → (∀ k, k ∈ zs ↔ k ∈ ns) → newL own (zs.map .int) W1 Q) : aSortSet own a δ W Q := h
theorem go_sortL {ns : List Int} (e : lstRd W d = some (ns.map .int)) (q : ∀ ys : List Int, ys.Perm ns → ys.Pairwise (· ≤ ·) → newL own (ys.map .int) W Q) : dSort own [d] W Q := ⟨d, rfl, .inl ⟨ns, e, q⟩⟩
theorem go_enum (h : l δ W fun ds W1 => ∃ x xs, ds = [x] ∧ lstRd W1 x = some xs ∧ M (enumD xs) (okOf x xs) W1) : aiEnum l δ W M := h
end
end DL

namespace DL
open PySem PySem.Spec PyProof.Rows L2
/-- values read plainly -/
def PDs (K : PySem.W.Frag) (H : Hp) (kvs : List (Key × V)) (ps : List (Key × PyData)) : Prop := All2 (fun kv p => kv.1 = p.1 ∧ Dp K H kv.2 p.2 ∧ p.2.plain = true ∧ p.2.depth ≤ 150) kvs ps
theorem PDs.len {K : PySem.W.Frag} {H : Hp} {ks : List (Key × V)} {ps : List (Key × PyData)} (h : PDs K H ks ps) : ks.length = ps.length := by
  induction h with
  | nil => rfl
  | cons _ _ ih => rw [List.length_cons, List.length_cons, ih]
theorem PDs.look {K : PySem.W.Frag} {H : Hp} {ks : List (Key × V)} {ps : List (Key × PyData)} (k : Key) (h : PDs K H ks ps) : (∃ v d, valV ks k = some v ∧ DL.look ps k = some d ∧ Dp K H v d ∧ d.plain = true ∧ d.depth ≤ 150) ∨ (valV ks k = none ∧ DL.look ps k = none) := by
  induction h with
  | nil => exact .inr ⟨rfl, rfl⟩
  | @cons x y xs ys h r ih =>
    obtain ⟨h1, h2⟩ := h
    obtain ⟨kx, vx⟩ := x
    obtain ⟨ky, dy⟩ := y
    dsimp only at h1 h2
    subst h1
    by_cases e : kx = k
    · subst e
      exact .inl ⟨vx, dy, valV_pos rfl, by simp [DL.look], h2⟩
    · rcases ih with ⟨v, d, a1, a2, a3⟩ | ⟨a1, a2⟩
      · exact .inl ⟨v, d, by rw [valV_neg e]; exact a1, by rw [← a2]; simp [DL.look, e], a3⟩
      · exact .inr ⟨by rw [valV_neg e]; exact a1, by rw [← a2]; simp [DL.look, e]⟩
/-- too large for a step -/
def wide (t : Trm) : Bool := decide (120 < t.depth) || decide (4000 < t.size)
end DL

namespace DL
open PySem PySem.Spec PyProof.Rows L2
/-- the last place from c on, n further ones looked at, where p says yes; else c -/
def lastTo (p : Nat → Bool) (c : Nat) : Nat → Nat
  | 0 => c
  | n + 1 => if p (c + n + 1) = true then c + n + 1 else lastTo p c n
theorem lastTo_ok {p : Nat → Bool} {c : Nat} (h : p c = true) : ∀ n, p (lastTo p c n) = true ∧ c ≤ lastTo p c n ∧ lastTo p c n ≤ c + n ∧ ∀ i, lastTo p c n < i → i ≤ c + n → p i = false
  | 0 => ⟨h, Nat.le_refl _, Nat.le_refl _, fun i h1 h2 => by unfold lastTo at h1; omega⟩
  | n + 1 => by
    obtain ⟨a, b, d, e⟩ := lastTo_ok h n
    unfold lastTo
    by_cases hp : p (c + n + 1) = true
    · rw [if_pos hp]
      exact ⟨hp, by omega, by omega, fun i h1 h2 => by omega⟩
    · rw [if_neg hp]
      refine ⟨a, b, by omega, fun i h1 h2 => ?_⟩
      by_cases hi : i = c + n + 1
      · subst hi; simpa using hp
      · exact e i h1 (by omega)
def eqA (ts : List Trm) (c i : Nat) : Bool := decide (ts[i]? = ts[c]?)
def lastI (ts : List Trm) (c : Nat) : Nat := lastTo (eqA ts c) c (ts.length - 1 - c)
theorem lastI_ok {ts : List Trm} {c : Nat} (hc : c < ts.length) : ts[lastI ts c]? = ts[c]? ∧ c ≤ lastI ts c ∧ lastI ts c < ts.length ∧ ∀ i, lastI ts c < i → i < ts.length → ts[i]? ≠ ts[c]? := by
  obtain ⟨a, b, d, e⟩ := lastTo_ok (p := eqA ts c) (c := c) (decide_eq_true rfl) (ts.length - 1 - c)
  refine ⟨of_decide_eq_true a, b, by unfold lastI; omega, fun i h1 h2 => of_decide_eq_false (e i h1 (by omega))⟩
/-- the places whose steps are kept, from c on -/
inductive Sh (ts : List Trm) (n : Nat) : Nat → List Nat → Prop
  | done {c : Nat} (h : lastI ts c = n) : Sh ts n c []
  | step {c : Nat} {ls : List Nat} (h : lastI ts c ≠ n) (r : Sh ts n (lastI ts c + 1) ls) : Sh ts n c (lastI ts c :: ls)
theorem Sh.ex {ts : List Trm} {n : Nat} (hl : ts.length = n + 1) : ∀ (k c : Nat), n - c = k → c ≤ n → ∃ ls, Sh ts n c ls := by
  intro k
  induction k using Nat.strongRecOn with
  | _ k ih =>
    intro c hk hc
    obtain ⟨_, b, d, _⟩ := lastI_ok (ts := ts) (c := c) (by omega)
    by_cases h : lastI ts c = n
    · exact ⟨[], .done h⟩
    · obtain ⟨ls, r⟩ := ih (n - (lastI ts c + 1)) (by omega) (lastI ts c + 1) rfl (by omega)
      exact ⟨_, .step h r⟩
theorem Sh.lt {ts : List Trm} {n c : Nat} {ls : List Nat} (hl : ts.length = n + 1) (h : Sh ts n c ls) : c ≤ n → ∀ l ∈ ls, l < n := by
  induction h with
  | done _ => intro _ l hl; cases hl
  | @step c ls hn r ih =>
    intro hc l hm
    obtain ⟨_, b, d, _⟩ := lastI_ok (ts := ts) (c := c) (by omega)
    rcases List.mem_cons.mp hm with rfl | hm
    · omega
    · exact ih (by omega) l hm
theorem Sh.len {ts : List Trm} {n c : Nat} {ls : List Nat} (hl : ts.length = n + 1) (h : Sh ts n c ls) : c ≤ n → c + ls.length ≤ n := by
  induction h with
  | done _ => intro h; simpa using h
  | @step c ls hn r ih =>
    intro hc
    obtain ⟨_, b, d, _⟩ := lastI_ok (ts := ts) (c := c) (by omega)
    have := ih (by omega)
    rw [List.length_cons]; omega
/-- steps and the terms that they visit -/
structure Trl (gs ss : List Ru) (P : Trm → Prop) (xs : List Stq) (ts : List Trm) : Prop where
  len : ts.length = xs.length + 1
  nx : ∀ (k : Nat) x t u, xs[k]? = some x → ts[k]? = some t → ts[k + 1]? = some u → nxt gs ss t x = some u
  ok : ∀ t ∈ ts, P t
theorem Trl.snoc {gs ss : List Ru} {P : Trm → Prop} {xs : List Stq} {ts : List Trm} (h : Trl gs ss P xs ts) {x : Stq} {t u : Trm} (ht : ts[xs.length]? = some t) (hn : nxt gs ss t x = some u) (hu : P u) : Trl gs ss P (xs ++ [x]) (ts ++ [u]) where
  len := by rw [List.length_append, List.length_append, h.len]; rfl
  nx := fun k y v w hy hv hw => by
    have hl := h.len
    by_cases hk : k < xs.length
    · rw [List.getElem?_append_left hk] at hy
      rw [List.getElem?_append_left (by omega)] at hv hw
      exact h.nx k y v w hy hv hw
    · have hk2 : k = xs.length := by
        by_cases h2 : k = xs.length
        · exact h2
        · rw [List.getElem?_eq_none (by rw [List.length_append, List.length_singleton]; omega)] at hy; cases hy
      subst hk2
      rw [List.getElem?_append_right (Nat.le_refl _), Nat.sub_self] at hy
      rw [List.getElem?_append_left (by omega), ht] at hv
      rw [List.getElem?_append_right (by omega), show xs.length + 1 - ts.length = 0 by omega] at hw
      cases hy; cases hv; cases hw
      exact hn
  ok := fun v hv => by
    rcases List.mem_append.mp hv with hv | hv
    · exact h.ok v hv
    · rw [List.mem_singleton.mp hv]; exact hu
theorem Trl.nil {gs ss : List Ru} {P : Trm → Prop} {t : Trm} (h : P t) : Trl gs ss P [] [t] where
  len := rfl
  nx := fun k y v w hy _ _ => by simp at hy
  ok := fun v hv => by rw [List.mem_singleton.mp hv]; exact h
theorem ChK.trl {ops : Sig} {first : Nat} {t u : Trm} {gs : List Ru} {xs : List Stq} {ts : List Trm} (h : ChK ops first t gs xs ts u) (ht : Wf ops 9 t) (pre more ss : List Ru) (hp : pre.length = first) : Trl (pre ++ gs ++ more) ss (fun v => Wf ops 9 v ∧ v.depth ≤ t.depth + 4 * xs.length ∧ v.size ≤ t.size + 16 * xs.length) xs (t :: ts) := by
  have go : ∀ (n : Nat), xs.length ≤ n → Trl (pre ++ gs ++ more) ss (fun v => Wf ops 9 v ∧ v.depth ≤ t.depth + 4 * n ∧ v.size ≤ t.size + 16 * n) xs (t :: ts) := by
    induction h generalizing more with
    | nil => intro n _; exact .nil ⟨ht, by omega, by omega⟩
    | @snoc gs xs ts u u' old new p s b h k ih =>
      intro n hn
      rw [List.length_append, List.length_singleton] at hn
      have hall := (h.snoc b k).fol pre more ss hp
      have e1 : pre ++ (gs ++ [if b = true then (old, new) else (new, old)]) ++ more = pre ++ gs ++ ([if b = true then (old, new) else (new, old)] ++ more) := by simp
      rw [e1] at hall ⊢
      rw [follow_app, h.fol pre _ ss hp, Option.bind_some, follow] at hall
      obtain ⟨w', d', z', _⟩ := (h.snoc b k).ok ht
      obtain ⟨_, _, _, lu⟩ := h.ok ht
      rw [List.length_append, List.length_singleton] at d' z'
      have l2 := h.len.2
      cases hn2 : nxt (pre ++ gs ++ ([if b = true then (old, new) else (new, old)] ++ more)) ss u ⟨true, ((first + xs.length : Nat) : Int), b, p, s⟩ with
      | none => rw [hn2] at hall; cases hall
      | some w =>
        rw [hn2] at hall
        have hw : w = u' := by simpa [follow] using hall
        subst hw
        rw [← List.cons_append]
        refine (ih _ n (by omega)).snoc (t := u) ?_ hn2 ⟨w', by omega, by omega⟩
        rw [List.getLast?_eq_getElem?, List.length_cons, l2] at lu
        rw [← lu]; rfl
  exact go _ (Nat.le_refl _)
/-- the steps at these places -/
def pickS (xs : List Stq) (ls : List Nat) : List Stq := ls.filterMap fun l => xs[l]?
theorem pickS_cons {xs : List Stq} {l : Nat} {ls : List Nat} {x : Stq} (h : xs[l]? = some x) : pickS xs (l :: ls) = x :: pickS xs ls := by unfold pickS; rw [List.filterMap_cons, h]
theorem Trl.short {gs ss : List Ru} {P : Trm → Prop} {xs : List Stq} {ts : List Trm} (T : Trl gs ss P xs ts) {c : Nat} {ls : List Nat} (h : Sh ts xs.length c ls) : ∀ {t u : Trm}, c ≤ xs.length → ts[c]? = some t → ts[xs.length]? = some u → DL.follow gs ss t (pickS xs ls) = some u ∧ Vis gs ss P t (pickS xs ls) := by
  have hl := T.len
  induction h with
  | @done c hn =>
    intro t u hc ht hu
    obtain ⟨a, _⟩ := lastI_ok (ts := ts) (c := c) (by omega)
    rw [hn, ht, hu] at a
    cases a
    exact ⟨rfl, .nil (T.ok _ (List.mem_of_getElem? ht))⟩
  | @step c ls hn r ih =>
    intro t u hc ht hu
    obtain ⟨a, b, d, _⟩ := lastI_ok (ts := ts) (c := c) (by omega)
    have hlt : lastI ts c < xs.length := by omega
    have hx : xs[lastI ts c]? = some xs[lastI ts c] := List.getElem?_eq_getElem hlt
    have hw : ts[lastI ts c + 1]? = some (ts[lastI ts c + 1]'(by omega)) := List.getElem?_eq_getElem (by omega)
    have k := T.nx _ _ _ _ hx (a.trans ht) hw
    obtain ⟨i1, i2⟩ := ih (by omega) hw hu
    rw [pickS_cons hx]
    refine ⟨?_, .cons (T.ok _ (List.mem_of_getElem? ht)) k i2⟩
    rw [DL.follow, k]
    exact i1
/-- three cells -/
def W3 (W : Wd) (a b st : Addr) (x y o : MO) : Wd := ((W.set a x).set b y).set st o
section
variable {W : Wd} {a b st : Addr} {x y o x' y' o' : MO}
theorem W3.ga (h1 : a ≠ st) (h2 : a ≠ b) : (W3 W a b st x y o) a = some x := by unfold W3; rw [Wd.set_ne h1, Wd.set_ne h2, Wd.set_same]
theorem W3.sa (h1 : a ≠ st) (h2 : a ≠ b) : (W3 W a b st x y o).set a x' = W3 W a b st x' y o := by
  unfold W3
  rw [Wd.set_comm (Ne.symm h1), Wd.set_comm (W := W.set a x) (Ne.symm h2), Wd.set_set]
theorem W3.sb (h1 : b ≠ st) : (W3 W a b st x y o).set b y' = W3 W a b st x y' o := by
  unfold W3
  rw [Wd.set_comm (Ne.symm h1), Wd.set_set]
end
theorem Trl.mono {gs ss : List Ru} {P P' : Trm → Prop} {xs : List Stq} {ts : List Trm} (T : Trl gs ss P xs ts) (h : ∀ v, P v → P' v) : Trl gs ss P' xs ts := ⟨T.len, T.nx, fun v hv => h v (T.ok v hv)⟩
theorem wide_no {t : Trm} (h1 : t.depth ≤ 120) (h2 : t.size ≤ 4000) : wide t = false := by
  unfold wide
  rw [Bool.or_eq_false_iff, decide_eq_false_iff_not, decide_eq_false_iff_not]
  omega
end DL

namespace DL
open PySem PySem.Spec PyProof.Rows L2
def downD (hi : Int) (n : Nat) : List D := (List.range n).map fun k => D.int (hi - (k : Nat))
def aiRngD (t : AA) : AI := fun δ W N => t δ W fun ds W1 => ∃ i j : Int, ds = [.int i, .int j, .int (-1)] ∧ (-(2 ^ 62) ≤ i ∧ i < 2 ^ 62 ∧ -(2 ^ 62) ≤ j ∧ j < 2 ^ 62) ∧ N (downD i (i - j).toNat) (fun _ => True) W1
def rListK : List V → Hp → VK → Prop := fun xs H Q => ∃ (a : Addr) (kvs : List (L2.Key × V)), xs = [.ref a] ∧ Rd H a (.dK kvs) ∧ ∀ p, H p = none → Q (.ref p) (upd H p (.lst (kvs.map fun kv => kV kv.1)))
theorem call_listK {X : Cx} (hc : X.calm = true) : CallR X (.type "list") rListK := call_listD hc
def dListK (own : Bool) : RDC := fun ds W Q => ∃ d kds, ds = [d] ∧ dkOf W d = some kds ∧ newL own (kds.map fun kd => keyD kd.1) W Q
theorem isKs_ds {K : PySem.W.Frag} {G : Hp} : ∀ {kds : List (Key × D)} {kvs : List (Key × V)}, IsKs K G kds kvs → IsDs K G (kds.map fun kd => keyD kd.1) (kvs.map fun kv => kV kv.1)
  | [], _, h => by cases h; rfl
  | (k, d) :: ds, _, h => by
    obtain ⟨v, r, rfl, _, h2⟩ := h
    exact ⟨kV k, _, rfl, keyD_at k, isKs_ds h2⟩
theorem sc_listK {K : PySem.W.Frag} {own : Bool} : SimRC K rListK (dListK own) := fun G H W xs ds Q QD R hx h k => by
  obtain ⟨d, kds, rfl, e, q⟩ := h
  obtain ⟨v, rfl, hv⟩ := one_of hx
  obtain ⟨a, kvs, rfl, ha, qk⟩ := dkOf_at R hv e
  exact ⟨a, kvs, rfl, ha, fun p hp => newL.go R (isKs_ds qk) q k p hp⟩
theorem go_listK {W : Wd} {Q : DQ} {d : D} {kds : List (Key × D)} {own : Bool} (e : dkOf W d = some kds) (q : newL own (kds.map fun kd => keyD kd.1) W Q) : dListK own [d] W Q := ⟨d, kds, rfl, e, q⟩
def aForValsIx (i : Nat) (c : Nat) (g : AG) (b : AS) : AS := fun A δ W => ∃ ds kds, δ[i]? = some (some (.tup ds)) ∧ ds[c]? = some (.dk kds) ∧ forL g b A (fun _ => True) (kds.map fun kv => kv.2) δ W
theorem go_valsIx {i c : Nat} {g : AG} {b : AS} {A : AEnds} {δ : Sl} {W : Wd} {ds : List D} {kds : List (Key × D)} (h0 : δ[i]? = some (some (.tup ds))) (h1 : ds[c]? = some (.dk kds)) (h : forL g b A (fun _ => True) (kds.map fun kv => kv.2) δ W) : aForValsIx i c g b A δ W := ⟨ds, kds, h0, h1, h⟩
theorem go_rngD {t : AA} {δ : Sl} {W : Wd} {M} (h : t δ W fun ds W1 => ∃ i j : Int, ds = [.int i, .int j, .int (-1)] ∧ (-(2 ^ 62) ≤ i ∧ i < 2 ^ 62 ∧ -(2 ^ 62) ≤ j ∧ j < 2 ^ 62) ∧ M (downD i (i - j).toNat) (fun _ => True) W1) : aiRngD t δ W M := h
theorem go_rngD' {i j : Int} {p : Int → Int → Prop} (h0 : -(2 ^ 62) ≤ i ∧ i < 2 ^ 62 ∧ -(2 ^ 62) ≤ j ∧ j < 2 ^ 62) (h : p i j) : ∃ i' j' : Int, [D.int i, D.int j, D.int (-1)] = [.int i', .int j', .int (-1)] ∧ (-(2 ^ 62) ≤ i' ∧ i' < 2 ^ 62 ∧ -(2 ^ 62) ≤ j' ∧ j' < 2 ^ 62) ∧ p i' j' := ⟨i, j, rfl, h0, h⟩
end DL

namespace DL
open PySem PySem.Spec PyProof.Rows L2
structure Stg where
  l : Trm
  r : Trm
  xs : List Stq
def Stg.e (s : Stg) : Ru := (s.l, s.r)
def Stg.d (s : Stg) : D := .tup [s.l.d, s.r.d, .lst (s.xs.map Stq.d)]
/-- what each stage gives, from what the earlier ones gave -/
def prog {α : Type} (f : List α → Stg → α) (sg : List Stg) : List α := sg.foldl (fun acc s => acc ++ [f acc s]) []
def zb : Nat → Nat
  | 0 => 45
  | k + 1 => 225 + 45 * k
def db : Nat → Nat
  | 0 => 11
  | k + 1 => 24 + 12 * k
def mz (k : Nat) : Nat := if k = 1 then 4 else 1
def md (k : Nat) : Nat := if k = 1 then 2 else 1
def Pk (k : Nat) (v : Trm) : Prop := v.depth ≤ db k ∧ v.size ≤ zb k
def XOk (k : Nat) (x : Stq) : Prop := (x.s.map (·.1)).Nodup ∧ x.s.length ≤ 10 ∧ x.p.length ≤ db k ∧ ∀ vt ∈ x.s, vt.2.depth ≤ db k + 1 ∧ vt.2.size ≤ zb k + 4
structure FtOk (gs : List Ru) (k : Nat) (l r : Trm) (F : List Stq) : Prop where
  fol : follow gs [] l F = some r
  vis : Vis gs [] (Pk k) l F
  giv : ∀ x ∈ F, x.giv = true
  ok : ∀ x ∈ F, XOk k x
theorem Vis.app {gs ss : List Ru} {P : Trm → Prop} {t u : Trm} {xs ys : List Stq} (h : Vis gs ss P t xs) : follow gs ss t xs = some u → Vis gs ss P u ys → Vis gs ss P t (xs ++ ys) := by
  induction h with
  | nil h => intro e k; cases e; exact k
  | @cons t w x xs h k r ih =>
    intro e k2
    rw [follow, k] at e
    exact .cons h k (ih e k2)
theorem FtOk.app {gs : List Ru} {k : Nat} {l m r : Trm} {F G : List Stq} (h : FtOk gs k l m F) (g : FtOk gs k m r G) : FtOk gs k l r (F ++ G) where
  fol := by rw [follow_app, h.fol]; exact g.fol
  vis := h.vis.app h.fol g.vis
  giv := fun x hx => (List.mem_append.mp hx).elim (h.giv x) (g.giv x)
  ok := fun x hx => (List.mem_append.mp hx).elim (h.ok x) (g.ok x)
/-- one stage: perhaps a step by an earlier stage, then steps by given equations -/
inductive Pre (sg : List Stg) (k : Nat) : Trm → Trm → List Stq → Prop
  | none {t : Trm} : Pre sg k t t []
  | one {x : Stq} {j : Nat} {sj : Stg} {c : Trm} (hg : x.giv = false) (hi : x.i = (j : Int)) (hj : j < k) (hs : sg[j]? = some sj) (nd : (x.s.map (·.1)).Nodup) (sl : x.s.length ≤ 10) (sv : ∀ v, (x.s.fn v).depth ≤ md k ∧ (x.s.fn v).size ≤ mz k) (sv2 : ∀ vt ∈ x.s, vt.2.depth ≤ md k ∧ vt.2.size ≤ mz k) (hp : c.isPos x.p = true) (cd : c.depth ≤ 3) (cz : c.size ≤ 13) (hb : bnd x.s sj.l sj.r = true) :
      Pre sg k (c.put x.p ((x.old sj.e).sub x.s.fn)) (c.put x.p ((x.new sj.e).sub x.s.fn)) [x]
structure SgOk (gs : List Ru) (sg : List Stg) (k : Nat) (s : Stg) : Prop where
  ex : ∃ (pre : List Stq) (mid : Trm) (ch : List Stq), s.xs = pre ++ ch ∧ Pre sg k s.l mid pre ∧ FtOk gs k mid s.r ch
end DL

namespace DL
open PySem PySem.Spec PyProof.Rows L2
theorem db_le {k : Nat} (h : k ≤ 4) : db k ≤ 60 ∧ zb k ≤ 360 := by
  match k, h with
  | 0, _ => decide
  | 1, _ => decide
  | 2, _ => decide
  | 3, _ => decide
  | 4, _ => decide
end DL

namespace DL
open PySem PySem.Spec PyProof.Rows L2
theorem ChK.giv {ops : Sig} {first : Nat} {t u : Trm} {gs : List Ru} {xs : List Stq} {ts : List Trm} (h : ChK ops first t gs xs ts u) : ∀ x ∈ xs, x.giv = true ∧ 0 ≤ x.i ∧ x.i < ((first + xs.length : Nat) : Int) := by
  induction h with
  | nil => intro x hx; cases hx
  | snoc b h k ih =>
    intro x hx
    rw [List.length_append, List.length_singleton]
    rcases List.mem_append.mp hx with hx | hx
    · obtain ⟨a, b, c⟩ := ih x hx
      exact ⟨a, b, by omega⟩
    · rw [List.mem_singleton.mp hx]
      exact ⟨rfl, by dsimp only; omega, by dsimp only; omega⟩
theorem ChK.xok {ops : Sig} {first : Nat} {t u : Trm} {gs : List Ru} {xs : List Stq} {ts : List Trm} {k : Nat} (h : ChK ops first t gs xs ts u) (ht : Wf ops 9 t) : t.depth + 4 * xs.length ≤ db k → t.size + 16 * xs.length ≤ zb k → ∀ x ∈ xs, XOk k x := by
  induction h with
  | nil => intro _ _ x hx; cases hx
  | snoc b h q ih =>
    intro hd hz x hx
    rw [List.length_append, List.length_singleton] at hd hz
    rcases List.mem_append.mp hx with hx | hx
    · exact ih (by omega) (by omega) x hx
    · rw [List.mem_singleton.mp hx]
      obtain ⟨a, b, c, d⟩ := h.ok ht
      have hp := (at_size q.pos).2
      refine ⟨q.nd, q.sl, by dsimp only; omega, fun vt hv => ?_⟩
      obtain ⟨_, _, e, f⟩ := q.vals vt hv
      exact ⟨by omega, by omega⟩
structure StK (ops : Sig) (n k : Nat) (s : Stg) : Prop where
  wl : Wf ops 9 s.l
  wr : Wf ops 9 s.r
  pl : Pk k s.l
  pr : Pk k s.r
  xl : s.xs.length ≤ 3
  sm : ∀ x ∈ s.xs, x.s.length ≤ 10 ∧ StqSm x 61 364
  ix : ∀ x ∈ s.xs, x.giv = true → 0 ≤ x.i ∧ x.i < (n : Int)
structure StgsOk (ops : Sig) (gs : List Ru) (sg : List Stg) : Prop where
  sk : ∀ more k s, sg[k]? = some s → SgOk (gs ++ more) sg k s
  st : ∀ k s, sg[k]? = some s → StK ops gs.length k s
  gl : gs.length ≤ 2 * sg.length
  gw : ∀ e ∈ gs, (Wf ops 10 e.1 ∧ e.1.depth ≤ 70 ∧ e.1.size ≤ 400) ∧ Wf ops 10 e.2 ∧ e.2.depth ≤ 70 ∧ e.2.size ≤ 400
  ge : ∀ e ∈ gs, e.1.depth ≤ 140 ∧ e.1.size ≤ 100000 ∧ e.2.depth ≤ 140 ∧ e.2.size ≤ 100000
theorem StgsOk.nil (ops : Sig) : StgsOk ops [] [] := ⟨fun _ k s h => (by cases h), fun k s h => (by cases h), Nat.le_refl _, fun e h => (by cases h), fun e h => (by cases h)⟩
theorem Pre.grow {sg : List Stg} {k : Nat} {l m : Trm} {xs : List Stq} (h : Pre sg k l m xs) (hk : k ≤ sg.length) (s' : Stg) : Pre (sg ++ [s']) k l m xs := by
  cases h with
  | none => exact .none
  | one hg hi hj hs nd sl sv sv2 hp cd cz hb => exact .one hg hi hj (by rw [List.getElem?_append_left (by omega)]; exact hs) nd sl sv sv2 hp cd cz hb
/-- one stage more -/
theorem StgsOk.snoc {ops : Sig} {gs gs2 : List Ru} {sg : List Stg} {l mid u : Trm} {pre ch : List Stq} {ts : List Trm} (hO : Ops ops) (h : StgsOk ops gs sg) (h4 : sg.length ≤ 4) (hp : Pre sg sg.length l mid pre) (wl : Wf ops 9 l) (wm : Wf ops 9 mid) (pl : Pk sg.length l) (hm : mid.depth + 8 ≤ db sg.length ∧ mid.size + 32 ≤ zb sg.length) (p1 : pre.length ≤ 1) (ps : ∀ x ∈ pre, (x.s.length ≤ 10 ∧ StqSm x 61 364) ∧ x.giv = false) (hC : ChK ops gs.length mid gs2 ch ts u) (hl : ch.length ≤ 2) : StgsOk ops (gs ++ gs2) (sg ++ [⟨l, u, pre ++ ch⟩]) := by
  obtain ⟨d1, d2⟩ := db_le h4
  obtain ⟨l1, l2⟩ := hC.len
  obtain ⟨wu, du, zu, _⟩ := hC.ok wm
  have hgv := hC.giv
  refine ⟨fun more k s hs => ?_, fun k s hs => ?_, ?_, fun e he => ?_, fun e he => ?_⟩
  · by_cases hk : k < sg.length
    · rw [List.getElem?_append_left hk] at hs
      obtain ⟨p, m, c, e1, e2, e3⟩ := (h.sk (gs2 ++ more) k s hs).ex
      rw [← List.append_assoc] at e3
      exact ⟨p, m, c, e1, e2.grow (by omega) _, e3⟩
    · rw [List.getElem?_append_right (by omega)] at hs
      have hk2 : k = sg.length := by
        by_cases g : k = sg.length
        · exact g
        · rw [List.getElem?_eq_none (by rw [List.length_singleton]; omega)] at hs; cases hs
      subst hk2
      rw [Nat.sub_self] at hs
      cases hs
      refine ⟨pre, mid, ch, rfl, hp.grow (Nat.le_refl _) _, ⟨hC.fol gs more [] rfl, ?_, fun x hx => (hgv x hx).1, hC.xok wm (by omega) (by omega)⟩⟩
      have mono : ∀ {t : Trm} {xs : List Stq}, Vis (gs ++ gs2 ++ more) [] (fun v => Wf ops 9 v ∧ v.depth ≤ mid.depth + 4 * ch.length ∧ v.size ≤ mid.size + 16 * ch.length) t xs → Vis (gs ++ gs2 ++ more) [] (Pk sg.length) t xs := fun hV => by
        induction hV with
        | nil h => exact .nil ⟨by have := h.2.1; omega, by have := h.2.2; omega⟩
        | cons h k r ih => exact .cons ⟨by have := h.2.1; omega, by have := h.2.2; omega⟩ k ih
      exact mono (hC.vis wm gs more [] rfl)
  · by_cases hk : k < sg.length
    · rw [List.getElem?_append_left hk] at hs
      have K := h.st k s hs
      exact ⟨K.wl, K.wr, K.pl, K.pr, K.xl, K.sm, fun x hx hg => by have := K.ix x hx hg; rw [List.length_append]; omega⟩
    · rw [List.getElem?_append_right (by omega)] at hs
      have hk2 : k = sg.length := by
        by_cases g : k = sg.length
        · exact g
        · rw [List.getElem?_eq_none (by rw [List.length_singleton]; omega)] at hs; cases hs
      subst hk2
      rw [Nat.sub_self] at hs
      cases hs
      have hgl := h.gl
      refine ⟨wl, wu, pl, ⟨by dsimp only; omega, by dsimp only; omega⟩, by dsimp only; rw [List.length_append]; omega, fun x hx => ?_, fun x hx hg => ?_⟩
      · rcases List.mem_append.mp hx with hx | hx
        · exact (ps x hx).1
        · obtain ⟨a, b⟩ := hC.sm hO wm (by omega) (by omega) x hx
          exact ⟨a, b.mono (by omega) (by omega)⟩
      · rcases List.mem_append.mp hx with hx | hx
        · rw [(ps x hx).2] at hg; cases hg
        · have := (hgv x hx).2
          rw [List.length_append, l1]
          exact this
  · rw [List.length_append, List.length_append, List.length_singleton, l1]
    have := h.gl
    omega
  · rcases List.mem_append.mp he with he | he
    · exact h.gw e he
    · exact hC.eqs wm 70 400 (by omega) (by omega) e he
  · rcases List.mem_append.mp he with he | he
    · exact h.ge e he
    · obtain ⟨⟨_, a, b⟩, _, c, d⟩ := hC.eqs wm 140 100000 (by omega) (by omega) e he
      exact ⟨a, b, c, d⟩
theorem StgsOk.xl {ops : Sig} {gs : List Ru} {sg : List Stg} (h : StgsOk ops gs sg) : ∀ s ∈ sg, s.xs.length ≤ 3 := fun s hs => by
  obtain ⟨j, hj, e⟩ := List.mem_iff_getElem.mp hs
  exact (h.st j s (by rw [List.getElem?_eq_getElem hj, e])).xl
theorem StgsOk.sg {ops : Sig} {gs : List Ru} {sg : List Stg} (h : StgsOk ops gs sg) : ∀ k s, sg[k]? = some s → SgOk gs sg k s := fun k s hs => by
  have := h.sk [] k s hs
  rw [List.append_nil] at this; exact this
end DL

namespace DL
open PySem PySem.Spec PyProof.Rows L2
theorem occ_sub_mem {f : Str} {ts : List Trm} {v : Int} (h : v ∈ occ (.app f ts)) : ∃ u ∈ ts, v ∈ occ u := by
  rw [occ_app] at h
  induction ts with
  | nil => rw [Trm.symss] at h; cases h
  | cons t ts ih =>
    rw [Trm.symss, List.filterMap_append, List.mem_append] at h
    rcases h with h | h
    · exact ⟨t, List.mem_cons_self, h⟩
    · obtain ⟨u, hu, hv⟩ := ih h
      exact ⟨u, List.mem_cons_of_mem _ hu, hv⟩
end DL

namespace DL
open PySem PySem.Spec PyProof.Rows L2
/-- what is kept of the object of an exception in the air, over a ground and what is tracked -/
abbrev ZF := Heap → Hp → Value → Option Addr → Obj → Prop
theorem sky_imp {B h : Heap} {l : List Env} {a L : Addr} {Z Z' : Obj → Prop} (i : ∀ o, Z o → Z' o) (x : Sky B l a Z L h) : Sky B l a Z' L h := by
  rcases x with ⟨a1, a2, a3, oe, vs, a4, a5, a6⟩ | f | ⟨a1, a2, a3, f⟩
  · exact .inl ⟨a1, a2, a3, oe, vs, a4, i _ a5, a6⟩
  · exact .inr (.inl (L2H.flyingZ_imp i f))
  · exact .inr (.inr ⟨a1, a2, a3, L2H.tracedZ_imp i f⟩)
/-- an exception in the air of X -/
def XEz (Z : ZF) (X : Cx) (W : WX) (u : Value) (t : Shared) : Prop :=
  ∃ (a : Addr) (B : Heap) (z : Shared) (pp : List (Addr × Obj)) (σ : L2.St) (H : Hp) (cl : Value) (d : Option Addr),
    u = .ref a ∧ Inv X pp σ H z ∧ (∀ b o, z.heap.get? b = some o → b ∉ frs X.stack → B.get? b = some o) ∧ z.heap.UpToSlots t.heap ∧ Sky B X.stack a (Z B H cl d) X.env.locals t.heap ∧ H a = none ∧ t.os = z.os ∧ AllBare t.gens ∧ W cl d σ H
def TakesZ (Z : ZF) (X : Cx) (W : WX) : Prop := ∀ u t, XEz Z X W u t → X.xe u t
theorem XEz.imp {Z Z' : ZF} {X : Cx} {W : WX} {u : Value} {t : Shared} (i : ∀ B H c d o, Z B H c d o → Z' B H c d o) (x : XEz Z X W u t) : XEz Z' X W u t := by
  obtain ⟨a, B, z, pp, σ, H, cl, d, e, J, nb, up, sky, r⟩ := x
  exact ⟨a, B, z, pp, σ, H, cl, d, e, J, nb, up, sky_imp (i B H cl d) sky, r⟩
theorem TakesZ.imp {Z Z' : ZF} {X : Cx} {W : WX} (i : ∀ B H c d o, Z B H c d o → Z' B H c d o) (t : TakesZ Z' X W) : TakesZ Z X W := fun u s x => t u s (x.imp i)
/-- what a call lets out -/
def CXz (Z : ZF) (P : Program) (w : World) (outer : List Env) (H : Hp) (s : Shared) (E : XK) (u : Value) (t : Shared) : Prop :=
  ∃ (a : Addr) (B : Heap) (J : Hp) (cl : Value) (d : Option Addr), u = .ref a ∧ HandSPX.FlyingZ B outer a (Z B J cl d) t.heap ∧ HOk P w J B ∧ UB (frs outer) H J s.heap B t.heap ∧ J a = none ∧ t.os = s.os ∧ AllBare t.gens ∧ E cl d J
section
variable {X : Cx} {pp : List (Addr × Obj)} {σ : L2.St} {H : Hp} {s t z : Shared} {B : Heap} {W : WX} {E : XK} {Z : ZF}
theorem CXz.imp {Z' : ZF} {P : Program} {w : World} {l : List Env} {u : Value} (i : ∀ B H c d o, Z B H c d o → Z' B H c d o) (x : CXz Z P w l H s E u t) : CXz Z' P w l H s E u t := by
  obtain ⟨a, B, J, cl, d, e, fz, r⟩ := x
  exact ⟨a, B, J, cl, d, e, L2H.flyingZ_imp (i B J cl d) fz, r⟩
end
/-- the context bears the handled exception and what its chain names -/
def HotCw (X : Cx) : Prop := ∃ p ∈ X.pn, X.A.handled = some (.ref p.1) ∧ ∃ vs : Array Value, p.2.data = .fields vs ∧ (vs[2]? = some .none ∨ ∃ q ∈ X.pn, ∃ us : Array Value, vs[2]? = some (.ref q.1) ∧ q.2.data = .fields us ∧ us[2]? = some .none)
/-- the same of a heap, aside from a -/
def HotH (A : Around) (x a : Addr) (h : Heap) : Prop := A.handled = some (.ref x) ∧ x ≠ a ∧ ∃ (o : Obj) (vs : Array Value), h.get? x = some o ∧ o.data = .fields vs ∧ (vs[2]? = some .none ∨ ∃ (y : Addr) (q : Obj) (us : Array Value), vs[2]? = some (.ref y) ∧ y ≠ a ∧ h.get? y = some q ∧ q.data = .fields us ∧ us[2]? = some .none)
theorem HotH.keep {A : Around} {x a : Addr} {h h1 : Heap} (c : HotH A x a h) (k : ∀ b, b ≠ a → h1.get? b = h.get? b) : HotH A x a h1 := by
  obtain ⟨c1, c2, o, vs, c3, c4, c5⟩ := c
  refine ⟨c1, c2, o, vs, (k x c2).trans c3, c4, ?_⟩
  rcases c5 with c5 | ⟨y, q, us, d1, d2, d3, d4⟩
  · exact .inl c5
  · exact .inr ⟨y, q, us, d1, d2, (k y d2).trans d3, d4⟩
theorem HotCw.at {X : Cx} {pp : List (Addr × Obj)} {σ : L2.St} {H : Hp} {s : Shared} {h : Heap} {a : Addr} (c : HotCw X) (I : Inv X pp σ H s) (k : ∀ b o, s.heap.get? b = some o → h.get? b = some o) (n : s.heap.get? a = none) : ∃ p ∈ X.pn, HotH X.A p.1 a h ∧ s.heap.get? p.1 = some p.2 := by
  obtain ⟨p, hp, hh, vs, dv, r⟩ := c
  have ne : ∀ q ∈ X.pn, q.1 ≠ a := fun q hq e => by
    have y := (I.pin q (List.mem_append_left _ hq)).1
    rw [e, n] at y
    cases y
  have gt : ∀ q ∈ X.pn, s.heap.get? q.1 = some q.2 := fun q hq => (I.pin q (List.mem_append_left _ hq)).1
  refine ⟨p, hp, ⟨hh, ne p hp, p.2, vs, k _ _ (gt p hp), dv, ?_⟩, gt p hp⟩
  rcases r with r | ⟨q, hq, us, r1, r2⟩
  · exact .inl r
  · exact .inr ⟨q.1, q.2, us, r1, ne q hq, k _ _ (gt q hq), r2⟩
end DL

namespace DL
open PySem PySem.Spec PyProof.Rows L2
section
variable {X : Cx} {W : WX} {e : Expr} {t : L2.St → Hp → XK → Prop} {j : Nat} {cpos pos : PySem.Pos}
theorem HotCw.of (c : L2H.HotC X) : HotCw X := by
  obtain ⟨p, ⟨h1, vs, h2, h3⟩, hp⟩ := c
  exact ⟨p, hp, h1, vs, h2, .inl h3⟩
end
end DL

namespace DL
open PySem PySem.Spec PyProof.Rows L2
theorem lstRd_grow {W W' : Wd} {d : D} {ds : List D} (g : Grow W W') (h : lstRd W d = some ds) : lstRd W' d = some ds := by
  cases d with
  | ptr l =>
    cases e : W l with
    | none => simp [lstRd, lstOf, e] at h
    | some m =>
      have e' := g l m e
      simp only [lstRd, lstOf, e] at h
      simp only [lstRd, lstOf, e']
      exact h
  | lst _ => exact h
  | flst _ => exact h
  | _ => simp [lstRd, lstOf] at h
/-- what a step makes, if it is a step and its result is not too large -/
def stepE (gs ss : List Ru) (t : Trm) (x : Stq) : Option Trm := (nxt gs ss t x).bind fun u => if wide u = true then none else some u
theorem stepE_ok {gs ss : List Ru} {t u : Trm} {x : Stq} (h : nxt gs ss t x = some u) (w : wide u = false) : stepE gs ss t x = some u := by
  unfold stepE; rw [h, Option.bind_some, if_neg (by rw [w]; decide)]
/-- what a step needs so that nothing is too large -/
def StpOk (gs ss : List Ru) (x : Stq) : Prop := (x.s.map (·.1)).Nodup ∧ x.s.length < 64 ∧ ∀ r, eqAt gs ss x = some r → r.1.vars.length + r.2.vars.length < 64
/-- the terms behind t, or the number of the first step that is none -/
def visR (gs ss : List Ru) : Trm → List Stq → List Trm ⊕ Nat
  | _, [] => .inl []
  | t, x :: xs => match stepE gs ss t x with
    | none => .inr 0
    | some u => match visR gs ss u xs with
      | .inl us => .inl (u :: us)
      | .inr k => .inr (k + 1)
def visJ (ts : List Trm) (j : Nat) : List Trm ⊕ Nat → List Trm ⊕ Nat
  | .inl us => .inl (ts ++ us)
  | .inr k => .inr (j + k)
theorem visR_no {gs ss : List Ru} {t : Trm} {x : Stq} {xs : List Stq} (h : stepE gs ss t x = none) : visR gs ss t (x :: xs) = .inr 0 := by
  rw [visR, h]
theorem visR_ok {gs ss : List Ru} {t u : Trm} {x : Stq} {xs : List Stq} (h : stepE gs ss t x = some u) : visR gs ss t (x :: xs) = visJ [u] 1 (visR gs ss u xs) := by
  rw [visR, h]
  dsimp only
  cases visR gs ss u xs with
  | inl us => rfl
  | inr k => show Sum.inr (k + 1) = Sum.inr (1 + k); rw [Nat.add_comm]
theorem Trl.tail {gs ss : List Ru} {P : Trm → Prop} {x : Stq} {xs : List Stq} {t : Trm} {ts : List Trm} (T : Trl gs ss P (x :: xs) (t :: ts)) : ∃ u us, ts = u :: us ∧ nxt gs ss t x = some u ∧ Trl gs ss P xs (u :: us) := by
  have hl := T.len
  cases ts with
  | nil => simp at hl
  | cons u us =>
    refine ⟨u, us, rfl, T.nx 0 x t u rfl rfl rfl, ⟨by simpa using hl, fun k y v w a b c => T.nx (k + 1) y v w a b c, fun v hv => T.ok v (List.mem_cons_of_mem _ hv)⟩⟩
section
variable {gs ss : List Ru} {P : Trm → Prop} (hw : ∀ v, P v → wide v = false) (hP : ∀ v, P v → v.depth ≤ 135 ∧ v.size ≤ 1000000)
include hw in
theorem Trl.vis : ∀ {xs : List Stq} {t : Trm} {us : List Trm}, Trl gs ss P xs (t :: us) → visR gs ss t xs = .inl us
  | [], t, us, T => by
    have := T.len
    cases us with
    | nil => rfl
    | cons _ _ => simp at this
  | x :: xs, t, us, T => by
    obtain ⟨u, vs, rfl, hn, T2⟩ := T.tail
    rw [visR_ok (stepE_ok hn (hw u (T2.ok u List.mem_cons_self))), T2.vis]
    rfl
include hP in
include hw in
include hw hP in
end
end DL

namespace DL
open PySem PySem.Spec PyProof.Rows L2
/-- the steps lead from l to r -/
def ledB (gs ss : List Ru) (l r : Trm) (xs : List Stq) : Bool := match visR gs ss l xs with
  | .inl us => decide ((l :: us).getLast? = some r)
  | .inr _ => false
def derGo (gs : List Ru) : List Stg → List Stg → Bool
  | _, [] => true
  | dn, s :: sg => ledB gs (dn.map Stg.e) s.l s.r s.xs && derGo gs (dn ++ [s]) sg
/-- what is_derivation answers -/
def derB (gs : List Ru) (l r : Trm) (sg : List Stg) : Bool := match sg.getLast? with
  | none => false
  | some z => derGo gs [] sg && (decide (z.l = l) && decide (z.r = r))
theorem visR_follow {gs ss : List Ru} : ∀ {xs : List Stq} {t : Trm} {us : List Trm}, visR gs ss t xs = .inl us → follow gs ss t xs = (t :: us).getLast?
  | [], t, us, h => by cases h; rfl
  | x :: xs, t, us, h => by
    cases e : stepE gs ss t x with
    | none => rw [visR_no e] at h; cases h
    | some u =>
      rw [visR_ok e] at h
      cases hv : visR gs ss u xs with
      | inr k => rw [hv] at h; cases h
      | inl vs =>
        rw [hv] at h
        cases h
        have hn : nxt gs ss t x = some u := by
          unfold stepE at e
          cases hn : nxt gs ss t x with
          | none => rw [hn] at e; cases e
          | some w =>
            rw [hn, Option.bind_some] at e
            split at e
            · cases e
            · exact e
        rw [follow, hn, Option.bind_some, visR_follow hv]
        simp
structure StB (gs ss : List Ru) (x : Stq) : Prop where
  ok : StpOk gs ss x
  pl : x.p.length ≤ 60
  nw : ∀ e, eqAt gs ss x = some e → ((x.new e).sub x.s.fn).depth ≤ 70 ∧ ((x.new e).sub x.s.fn).size ≤ 2000
theorem StB.nxt {gs ss : List Ru} {x : Stq} {t u : Trm} (h : StB gs ss x) (e : nxt gs ss t x = some u) : u.depth ≤ max t.depth 130 ∧ u.size ≤ t.size + 2000 := by
  obtain ⟨q, e1, e2⟩ := nxt_some e
  obtain ⟨h1, _, _, rfl⟩ := nxtE_some e2
  have a := put_sizeE (u := (x.new q).sub x.s.fn) (pos_of h1)
  have b := put_depthM (u := (x.new q).sub x.s.fn) (pos_of h1)
  obtain ⟨c1, c2⟩ := h.nw q e1
  have := h.pl
  exact ⟨by omega, by omega⟩
theorem StB.folok {gs ss : List Ru} : ∀ {xs : List Stq} {t : Trm}, (∀ x ∈ xs, StB gs ss x) → t.depth ≤ 130 → t.size + 2000 * xs.length ≤ 1000000 → FolOk gs ss t xs
  | [], _, _, hd, hz => ⟨by omega, by simp at hz; omega⟩
  | x :: xs, t, h, hd, hz => by
    rw [List.length_cons] at hz
    have hx := h x List.mem_cons_self
    exact ⟨⟨by omega, by omega⟩, fun u hu => by
      have := hx.nxt hu
      exact StB.folok (fun y hy => h y (List.mem_cons_of_mem _ hy)) (by omega) (by omega)⟩
theorem Vis.here {gs ss : List Ru} {P : Trm → Prop} {t : Trm} {xs : List Stq} (h : Vis gs ss P t xs) : P t := by cases h <;> assumption
/-- what ends at r by the same steps is the same -/
theorem back_vis {gs ss gs' ss' : List Ru} {P : Trm → Prop} {t r : Trm} {xs : List Stq} (hw : ∀ v, P v → wide v = false) (h : Vis gs ss P t xs) : follow gs ss t xs = some r → (∀ x ∈ xs, ∀ e, eqAt gs' ss' x = some e → eqAt gs ss x = some e) → ∀ v, follow gs' ss' v xs = some r → v = t ∧ ∃ us, visR gs' ss' v xs = .inl us := by
  induction h with
  | nil h => intro e _ v e2; cases e; cases e2; exact ⟨rfl, [], rfl⟩
  | @cons t u x xs h k q ih =>
    intro e he v e2
    rw [follow, k, Option.bind_some] at e
    rw [follow] at e2
    cases hn : nxt gs' ss' v x with
    | none => rw [hn] at e2; cases e2
    | some w =>
      rw [hn, Option.bind_some] at e2
      obtain ⟨rfl, us, hv⟩ := ih e (fun y hy => he y (List.mem_cons_of_mem _ hy)) w e2
      obtain ⟨a, a1, a2⟩ := nxt_some k
      obtain ⟨b, b1, b2⟩ := nxt_some hn
      have hb := he x List.mem_cons_self b b1
      rw [a1] at hb
      cases hb
      have f1 := nxtE_flip a2
      have f2 := nxtE_flip b2
      rw [f1] at f2
      cases f2
      refine ⟨rfl, w :: us, ?_⟩
      rw [visR_ok (stepE_ok hn (hw w q.here)), hv]
      rfl
/-- both ways of looking agree at a stage, and nothing is too large -/
structure StgGood (gs ss : List Ru) (s : Stg) : Prop where
  xl : s.xs.length ≤ 10
  ok : ∀ x ∈ s.xs, StB gs ss x
  l : s.l.depth ≤ 61 ∧ s.l.size ≤ 400
  r : s.r.depth ≤ 61 ∧ s.r.size ≤ 400
  go : follow gs ss s.l s.xs = some s.r → ∃ us, visR gs ss s.l s.xs = .inl us
structure SpOk (gs : List Ru) (sg : List Stg) : Prop where
  len : sg.length ≤ 1000
  g : EqsOk gs
  st : ∀ k s, sg[k]? = some s → StgGood gs ((sg.take k).map Stg.e) s
theorem SpOk.eqs {gs : List Ru} {sg : List Stg} (h : SpOk gs sg) : EqsOk (sg.map Stg.e) := by
  refine ⟨by rw [List.length_map]; have := h.len; omega, fun e he => ?_⟩
  obtain ⟨s, hs, rfl⟩ := List.mem_map.mp he
  obtain ⟨k, hk, e⟩ := List.mem_iff_getElem.mp hs
  have K := h.st k s (by rw [List.getElem?_eq_getElem hk, e])
  have a := K.l
  have b := K.r
  show s.l.depth ≤ 140 ∧ s.l.size ≤ 100000 ∧ s.r.depth ≤ 140 ∧ s.r.size ≤ 100000
  exact ⟨by omega, by omega, by omega, by omega⟩
theorem SpOk.fol {gs : List Ru} {sg : List Stg} (h : SpOk gs sg) {k : Nat} {s : Stg} (hs : sg[k]? = some s) : FolOk gs ((sg.take k).map Stg.e) s.l s.xs := by
  have K := h.st k s hs
  have a := K.l
  have b := K.xl
  exact StB.folok K.ok (by omega) (by omega)
end DL

namespace DL
open PySem PySem.Spec PyProof.Rows L2
theorem Vis.mem {gs ss : List Ru} {P : Trm → Prop} {t : Trm} {xs : List Stq} (h : Vis gs ss P t xs) : ∀ x ∈ xs, ∃ u w, P u ∧ P w ∧ nxt gs ss u x = some w := by
  induction h with
  | nil h => intro x hx; cases hx
  | @cons t u x xs h k r ih =>
    intro y hy
    rcases List.mem_cons.mp hy with rfl | hy
    · exact ⟨t, u, h, r.here, k⟩
    · exact ih y hy
theorem bnd_vars {s : Sb} {l r : Trm} (h : bnd s l r = true) : l.vars.length ≤ s.length ∧ r.vars.length ≤ s.length := by
  unfold bnd at h
  rw [Bool.and_eq_true, decide_eq_true_eq] at h
  obtain ⟨h, _⟩ := h
  rw [h]
  exact ⟨nodup_sub_len (vars_nodup l) fun x hx => nub_memL _ _ hx, nodup_sub_len (vars_nodup r) fun x hx => nub_memR _ _ hx⟩
section
variable {ops : Sig} {gs gs' ss' : List Ru} {sg : List Stg} {j : Nat} {s0 : Stg}
/-- what the first step makes, if its equation is the same -/
theorem Pre.nx {l m : Trm} {x : Stq} {ys : List Stq} (h : Pre sg j l m (x :: ys)) {w : Trm} (he : ∀ e, eqAt gs' ss' x = some e → ∃ sj, sg[x.i.toNat]? = some sj ∧ e = sj.e) (hn : nxt gs' ss' l x = some w) : w = m := by
  cases h with
  | @one y i sj c hg hi hj hsj nd sl sv sv2 hp cd cz hb =>
    obtain ⟨e, e1, e2⟩ := nxt_some hn
    obtain ⟨si, q1, q2⟩ := he e e1
    rw [show x.i.toNat = i by omega, hsj] at q1
    cases q1
    rw [q2] at e2
    obtain ⟨_, _, _, rfl⟩ := nxtE_some e2
    rw [put_put hp]
end
end DL

namespace DL
open PySem PySem.Spec PyProof.Rows L2
/-- a slot is set: the list written out -/
class SetTo (as : Sl) (n : Nat) (x : Option D) (bs : outParam Sl) : Prop where
  e : List.set as n x = bs
instance {a : Option D} {as : Sl} {x : Option D} : SetTo (a :: as) 0 x (x :: as) := ⟨rfl⟩
instance {a : Option D} {as bs : Sl} {n : Nat} {x : Option D} [h : SetTo as n x bs] : SetTo (a :: as) (n + 1) x (a :: bs) := ⟨by rw [List.set_cons_succ, h.e]⟩
class StartTo (N : List Str) (ds : List D) (bs : outParam Sl) : Prop where
  e : startD N ds = bs
instance : StartTo [] [] [] := ⟨rfl⟩
instance {s : Str} {N : List Str} {bs : Sl} [h : StartTo N [] bs] : StartTo (s :: N) [] (none :: bs) := ⟨by rw [← h.e]; rfl⟩
instance {s : Str} {N : List Str} {d : D} {ds : List D} {bs : Sl} [h : StartTo N ds bs] : StartTo (s :: N) (d :: ds) (some d :: bs) := ⟨by rw [← h.e]; unfold startD; simp⟩
instance {N : List Str} {ds : List D} {as bs : Sl} {n : Nat} {x : Option D} [h : StartTo N ds as] [k : SetTo as n x bs] : SetTo (startD N ds) n x bs := ⟨by rw [h.e]; exact k.e⟩
theorem go_nameI {n : Nat} {d : D} {δ δ' : Sl} {W : Wd} {N : Sl → Wd → Prop} [h0 : SetTo δ n (some d) δ'] (h : N δ' W) : agName n d δ W N := by
  have := h0.e
  subst this
  exact h
def Stp.q (x : Stp) : Stq := ⟨true, (x.1 : Nat), true, x.2.1, x.2.2⟩
/-- a redex is a step -/
theorem red_nxt {rs : List Ru} {t : Trm} {x : Stp} (hs : ∀ r ∈ rs, ∀ v ∈ occ r.2, v ∈ occ r.1) (hx : x ∈ reds rs t) : nxt rs [] t (Stp.q x) = some (stp rs t x) := by
  obtain ⟨p, hp, hx⟩ := List.mem_flatMap.mp hx
  have hpos := (pos_ok t p hp).isPos
  obtain ⟨r, h1, h2, h3, h4⟩ := redAt_fits hx
  have hr := hs r (List.mem_of_getElem? h1)
  have he : eqAt rs [] (Stp.q x) = some r := by
    unfold eqAt Stp.q
    rw [if_neg (by dsimp only; omega), if_pos rfl]
    exact h1
  have hb : bnd x.2.2 r.1 r.2 = true := by
    unfold bnd
    rw [nub_all fun v hv => mem_vars.mpr (hr v (mem_vars.mp hv)), Bool.and_eq_true, decide_eq_true_eq, List.all_eq_true]
    refine ⟨by rw [← h4, List.length_map], fun v hv => ?_⟩
    rw [h4]; exact decide_eq_true hv
  refine nxt_of he ?_
  unfold nxtE
  rw [if_pos ⟨by rw [show (Stp.q x).p = x.2.1 from rfl, h2]; exact hpos, hb, by
    show t.at x.2.1 = (if true = true then r.1 else r.2).sub x.2.2.fn
    rw [if_pos rfl, h3, h2]⟩]
  unfold stp rhs
  rw [h1]
  rfl
mutual
theorem mt_P {P : Trm → Prop} (hP : ∀ f ts, P (.app f ts) → ∀ t ∈ ts, P t) : ∀ (p t : Trm) (s : Sb), P t → ∀ vt ∈ (mt p t s).2, vt ∈ s ∨ P vt.2
  | .var v, t, s, h => by
    rw [mt]
    split
    · exact fun vt h => .inl h
    · intro vt h2
      rcases List.mem_append.mp h2 with h2 | h2
      · exact .inl h2
      · rw [List.mem_singleton] at h2; rw [h2]; exact .inr h
  | .app f ps, .app g ts, s, h => by
    rw [mt]
    split
    · exact mts_P hP ps ts s (hP g ts h)
    · exact fun vt h => .inl h
  | .app _ _, .var _, s, _ => by rw [mt]; exact fun vt h => .inl h
theorem mts_P {P : Trm → Prop} (hP : ∀ f ts, P (.app f ts) → ∀ t ∈ ts, P t) : ∀ (ps ts : List Trm) (s : Sb), (∀ t ∈ ts, P t) → ∀ vt ∈ (mts ps ts s).2, vt ∈ s ∨ P vt.2
  | [], ts, s, _ => by rw [mts] <;> simp; exact fun a b h => .inl h
  | p :: ps, [], s, _ => by rw [mts] <;> simp; exact fun a b h => .inl h
  | p :: ps, t :: ts, s, h => by
    intro vt h2
    have a := mt_P hP p t s (h t List.mem_cons_self) vt
    rw [mts] at h2
    split at h2
    · rcases mts_P hP ps ts _ (fun u hu => h u (List.mem_cons_of_mem _ hu)) vt h2 with h2 | h2
      · exact a h2
      · exact .inr h2
    · exact a h2
end
theorem wf_args {ops : Sig} {n : Int} : ∀ f ts, Wf ops n (.app f ts) → ∀ t ∈ ts, Wf ops n t := fun f ts h => h.args.2
structure RedOk (ops : Sig) (n : Int) (t : Trm) (x : Stp) : Prop where
  nd : (x.2.2.map (·.1)).Nodup
  w : ∀ vt ∈ x.2.2, Wf ops n vt.2 ∧ vt.2.depth ≤ t.depth ∧ vt.2.size ≤ t.size
  pl : x.2.1.length < t.depth
  p : t.isPos x.2.1 = true
theorem red_ok {ops : Sig} {n : Int} {rs : List Ru} {t : Trm} {x : Stp} (ht : Wf ops n t) (hx : x ∈ reds rs t) : RedOk ops n t x := by
  have hs := reds_small hx
  obtain ⟨p, hp, hx⟩ := List.mem_flatMap.mp hx
  have pk := pos_ok t p hp
  obtain ⟨r, h1, h2, h3, h4⟩ := redAt_mem hx
  refine ⟨redAt_nd hx, fun vt hv => ⟨?_, hs.1 vt hv⟩, hs.2, by rw [h2]; exact pk.isPos⟩
  rw [h4] at hv
  rcases mt_P wf_args _ _ _ (Wf.at ht pk.isPos) vt hv with h | h
  · cases h
  · exact h
theorem Trl.drop {gs ss : List Ru} {P : Trm → Prop} {xs : List Stq} {ts : List Trm} (T : Trl gs ss P xs ts) {k : Nat} (hk : k ≤ xs.length) : Trl gs ss P (xs.drop k) (ts.drop k) where
  len := by rw [List.length_drop, List.length_drop, T.len]; omega
  nx := fun j x t u a b c => by
    rw [List.getElem?_drop] at a b c
    exact T.nx (k + j) x t u a b (by rw [← c]; congr 1)
  ok := fun t h => T.ok t (List.mem_of_mem_drop h)
theorem Trl.take {gs ss : List Ru} {P : Trm → Prop} {xs : List Stq} {ts : List Trm} (T : Trl gs ss P xs ts) {k : Nat} (hk : k ≤ xs.length) : Trl gs ss P (xs.take k) (ts.take (k + 1)) where
  len := by rw [List.length_take, List.length_take, T.len]; omega
  nx := fun j x t u a b c => by
    rw [List.getElem?_take] at a b c
    split at a
    · split at b
      · split at c
        · exact T.nx j x t u a b c
        · cases c
      · cases b
    · cases a
  ok := fun t h => T.ok t (List.mem_of_mem_take h)
/-- a small rule as the law draws it -/
structure RuS (ops : Sig) (r : Ru) : Prop where
  wl : Wf ops 3 r.1
  nv : r.1.isVar = false
  dl : r.1.depth ≤ 3
  zl : r.1.size ≤ 13
  wr : Wf ops 3 r.2
  dr : r.2.depth ≤ 2
  zr : r.2.size ≤ 4
  sub : ∀ v ∈ occ r.2, v ∈ occ r.1
/-- a line of steps at redexes of terms that are not too large -/
inductive Ln (rs : List Ru) (t : Trm) : List Stp → List Trm → Trm → Prop
  | nil : Ln rs t [] [] t
  | snoc {xs : List Stp} {ts : List Trm} {u : Trm} {x : Stp} (h : Ln rs t xs ts u) (hx : x ∈ reds rs u) (hz : u.size < 40) : Ln rs t (xs ++ [x]) (ts ++ [stp rs u x]) (stp rs u x)
theorem Ln.len {rs : List Ru} {t u : Trm} {xs : List Stp} {ts : List Trm} (h : Ln rs t xs ts u) : ts.length = xs.length := by
  induction h with
  | nil => rfl
  | snoc h _ _ ih => simp [ih]
theorem Ln.last {rs : List Ru} {t u : Trm} {xs : List Stp} {ts : List Trm} (h : Ln rs t xs ts u) : (t :: ts).getLast? = some u := by
  cases h with
  | nil => rfl
  | snoc h _ _ => rw [← List.cons_append, List.getLast?_concat]
section
variable {ops : Sig} {rs : List Ru}
theorem RuS.ok (h : ∀ r ∈ rs, RuS ops r) (hl : rs.length ≤ 100) : RsOk rs := ⟨hl, fun r hr => by
  have a := h r hr
  have := a.dl
  have := a.zl
  have := a.dr
  have := a.zr
  exact ⟨by omega, by omega, by omega, by omega⟩⟩
theorem stp_wf {t : Trm} {x : Stp} (h : ∀ r ∈ rs, RuS ops r) (ht : Wf ops 4 t) (hx : x ∈ reds rs t) : Wf ops 4 (stp rs t x) ∧ (stp rs t x).depth ≤ t.depth + 2 ∧ (stp rs t x).size ≤ t.size + 4 * t.size := by
  have R := red_ok ht hx
  obtain ⟨p, hp, hx'⟩ := List.mem_flatMap.mp hx
  have pk := (pos_ok t p hp).isPos
  obtain ⟨r, h1, h2, _, _⟩ := redAt_mem hx'
  have hr := h r (List.mem_of_getElem? h1)
  have S := stp_le (a := 2) (b := 4) (fun r hr => ⟨(h r hr).dr, (h r hr).zr⟩) pk hx'
  refine ⟨?_, S⟩
  unfold stp rhs
  rw [h1, Option.getD_some]
  refine Wf.put (pos_of R.p) ht (Wf.sub (fun v h0 h1 => ?_) hr.wr)
  unfold Sb.fn
  cases e : x.2.2.get v with
  | none => exact .var h0 (by omega)
  | some y => exact (R.w _ (get_mem e)).1
/-- what is visited along a line -/
def LnP (ops : Sig) (n : Nat) (v : Trm) : Prop := Wf ops 4 v ∧ v.depth ≤ 4 + 2 * n ∧ v.size ≤ 200
theorem Ln.trl {t u : Trm} {xs : List Stp} {ts : List Trm} (h : ∀ r ∈ rs, RuS ops r) (ht : Wf ops 4 t ∧ t.depth ≤ 4 ∧ t.size ≤ 40) (hL : Ln rs t xs ts u) : Trl rs [] (LnP ops xs.length) (xs.map Stp.q) (t :: ts) ∧ LnP ops xs.length u := by
  induction hL with
  | nil => exact ⟨.nil ⟨ht.1, by omega, by omega⟩, ht.1, by omega, by omega⟩
  | @snoc xs ts u x hL hx hz ih =>
    obtain ⟨T, pu⟩ := ih
    obtain ⟨w1, w2, w3⟩ := stp_wf h pu.1 hx
    have pn : LnP ops (xs ++ [x]).length (stp rs u x) := by
      refine ⟨w1, ?_, by omega⟩
      have := pu.2.1
      rw [List.length_append, List.length_singleton]; omega
    refine ⟨?_, pn⟩
    have T2 := T.mono (P' := LnP ops (xs ++ [x]).length) fun v hv => ⟨hv.1, by have := hv.2.1; rw [List.length_append, List.length_singleton]; omega, hv.2.2⟩
    rw [List.map_append, ← List.cons_append]
    refine T2.snoc (t := u) ?_ (red_nxt (fun r hr => (h r hr).sub) hx) pn
    have := hL.last
    rw [List.getLast?_eq_getElem?, List.length_cons, hL.len] at this
    rw [List.length_map]; exact this
theorem Ln.sm {t u : Trm} {xs : List Stp} {ts : List Trm} (hO : Ops ops) (hl : rs.length ≤ 100) (h : ∀ r ∈ rs, RuS ops r) (ht : Wf ops 4 t ∧ t.depth ≤ 4 ∧ t.size ≤ 40) (hL : Ln rs t xs ts u) (h5 : xs.length ≤ 5) : ∀ x ∈ xs.map Stp.q, x.s.length ≤ 10 ∧ StqSm x 14 200 ∧ (x.s.map (·.1)).Nodup ∧ x.giv = true ∧ x.fwd = true := by
  induction hL with
  | nil => intro x hx; cases hx
  | @snoc xs ts u x hL hx hz ih =>
    rw [List.length_append, List.length_singleton] at h5
    obtain ⟨_, pu⟩ := hL.trl h ht
    have R := red_ok pu.1 hx
    intro y hy
    rw [List.map_append, List.mem_append] at hy
    rcases hy with hy | hy
    · exact ih (by omega) y hy
    · rw [List.map_cons, List.map_nil, List.mem_singleton] at hy
      subst hy
      obtain ⟨p, hp, hx'⟩ := List.mem_flatMap.mp hx
      obtain ⟨r, h1, h2, _, h4⟩ := redAt_fits hx'
      have hr := h r (List.mem_of_getElem? h1)
      have hi : x.1 < rs.length := by
        by_cases g : x.1 < rs.length
        · exact g
        · rw [List.getElem?_eq_none (by omega)] at h1; cases h1
      have hk : ∀ v ∈ x.2.2.map (·.1), 0 ≤ v ∧ v < 3 := fun v hv => by rw [h4] at hv; exact occ_wf2 hr.wl v (mem_vars.mp hv)
      have hsl : x.2.2.length ≤ 3 := by
        have := nodup_le 3 R.nd hk
        rw [List.length_map] at this; exact this
      have hd := pu.2.1
      refine ⟨by show x.2.2.length ≤ 10; omega, ⟨by show (-1000 : Int) ≤ (x.1 : Nat); omega, by show ((x.1 : Nat) : Int) ≤ 1000; omega, fun j hj => by have := pos_small hO pu.1 R.p j hj; omega, by have := R.pl; show x.2.1.length ≤ 200; omega, by show x.2.2.length ≤ 40; omega, fun vt hv => ?_⟩, R.nd, rfl, rfl⟩
      have hv : vt ∈ x.2.2 := hv
      obtain ⟨w1, w2, w3⟩ := R.w vt hv
      have := hk vt.1 (List.mem_map_of_mem (f := (·.1)) hv)
      have := pu.2.2
      exact ⟨⟨by omega, by omega⟩, w1.tn hO (by decide), by omega, by omega⟩
end
end DL

namespace DL
open PySem PySem.Spec PyProof.Rows L2
theorem Grow.put {W W' : Wd} {p : Addr} {o o' : MO} (h : Grow (W.set p o) W') : Grow (W.set p o') (W'.set p o') := fun l m e => by
  by_cases hl : l = p
  · subst hl; rw [Wd.set_same] at e ⊢; exact e
  · rw [Wd.set_ne hl] at e ⊢
    exact h l m (by rw [Wd.set_ne hl]; exact e)
/-- the values agree, whatever the variables are -/
def Tr (m : Nat) (mt : Md) (l r : Trm) : Prop := ∀ e : Int → Int, (∀ v, 0 ≤ e v ∧ e v < (m : Int)) → l.ev mt e = r.ev mt e
theorem Tr.refl {m : Nat} {mt : Md} (t : Trm) : Tr m mt t t := fun _ _ => rfl
theorem Tr.symm {m : Nat} {mt : Md} {t u : Trm} (h : Tr m mt t u) : Tr m mt u t := fun e he => (h e he).symm
theorem Tr.trans {m : Nat} {mt : Md} {t u v : Trm} (h : Tr m mt t u) (k : Tr m mt u v) : Tr m mt t v := fun e he => (h e he).trans (k e he)
/-- a step by an equation of its own that holds -/
structure TS (ops : Sig) (m : Nat) (mt : Md) (t : Trm) (i : Int) (r : Ru) (x : Stq) (t' : Trm) : Prop where
  tr : Tr m mt r.1 r.2
  nx : nxtE t x r = some t'
  giv : x.giv = true
  i : x.i = i
  nd : (x.s.map (·.1)).Nodup
  sl : x.s.length ≤ 10
  w : Wf ops 3 t'
  d : t'.depth ≤ t.depth + 4
  z : t'.size ≤ t.size + 16
  rd : r.1.depth ≤ t.depth + 4 ∧ r.1.size ≤ t.size + 16 ∧ r.2.depth ≤ t.depth + 4 ∧ r.2.size ≤ t.size + 16
end DL

namespace DL
open PySem PySem.Spec PyProof.Rows L2
/-- these cells hold these values; what else was there is there still -/
structure Hold (W : Wd) (cs : List (Addr × MO)) (W' : Wd) : Prop where
  nd : (cs.map (·.1)).Nodup
  at_ : ∀ x ∈ cs, W' x.1 = some x.2
  old : ∀ l, l ∉ cs.map (·.1) → ∀ m, W l = some m → W' l = some m
namespace Hold
variable {W W' W2 : Wd} {cs ds : List (Addr × MO)} {c : Addr} {m m' : MO}
theorem refl (nd : (cs.map (·.1)).Nodup) (h : ∀ x ∈ cs, W x.1 = some x.2) : Hold W cs W := ⟨nd, h, fun _ _ _ h => h⟩
theorem grow (h : Hold W cs W') (g : Grow W' W2) : Hold W cs W2 := ⟨h.nd, fun x hx => g _ _ (h.at_ x hx), fun l hl m e => g _ _ (h.old l hl m e)⟩
theorem c0 {x : Addr × MO} (h : Hold W (x :: cs) W') : W' x.1 = some x.2 := h.at_ x List.mem_cons_self
theorem c1 {x y : Addr × MO} (h : Hold W (x :: y :: cs) W') : W' y.1 = some y.2 := h.at_ y (by simp)
theorem c2 {x y z : Addr × MO} (h : Hold W (x :: y :: z :: cs) W') : W' z.1 = some z.2 := h.at_ z (by simp)
theorem c3 {x y z v : Addr × MO} (h : Hold W (x :: y :: z :: v :: cs) W') : W' v.1 = some v.2 := h.at_ v (by simp)
theorem c4 {x y z v w : Addr × MO} (h : Hold W (x :: y :: z :: v :: w :: cs) W') : W' w.1 = some w.2 := h.at_ w (by simp)
theorem free (h : Hold W cs W') (hc : W' c = none) : c ∉ cs.map (·.1) ∧ W c = none := by
  have a : c ∉ cs.map (·.1) := fun k => by
    obtain ⟨x, hx, rfl⟩ := List.mem_map.mp k
    rw [h.at_ x hx] at hc; cases hc
  refine ⟨a, ?_⟩
  cases e : W c with
  | none => rfl
  | some m => rw [h.old c a m e] at hc; cases hc
theorem new (h : Hold W cs W') (hc : W' c = none) : Hold W (cs ++ [(c, m)]) (W'.set c m) := by
  obtain ⟨a, _⟩ := h.free hc
  refine ⟨?_, fun x hx => ?_, fun l hl m0 e0 => ?_⟩
  · rw [List.map_append, List.nodup_append]
    exact ⟨h.nd, by simp, fun x hx y hy => by
      rw [List.map_cons, List.map_nil, List.mem_singleton] at hy
      rw [hy]; exact fun q => a (by have q : x = c := q; rw [← q]; exact hx)⟩
  · rcases List.mem_append.mp hx with h1 | h1
    · rw [Wd.set_ne (fun q => a (by rw [← q]; exact List.mem_map_of_mem h1))]
      exact h.at_ x h1
    · rw [List.mem_singleton.mp h1]; exact Wd.set_same ..
  · rw [List.map_append, List.mem_append] at hl
    rw [Wd.set_ne (fun q => hl (.inr (by rw [q]; simp)))]
    exact h.old l (fun k => hl (.inl k)) m0 e0
theorem del (h : Hold W (cs ++ [(c, m)]) W') (hc : W c = none) : Hold W cs (W'.del c) := by
  have nd := h.nd
  rw [List.map_append, List.nodup_append] at nd
  obtain ⟨n1, _, n3⟩ := nd
  refine ⟨n1, fun x hx => ?_, fun l hl m0 e0 => ?_⟩
  · have : x.1 ≠ c := n3 _ (List.mem_map_of_mem hx) _ (by simp)
    unfold Wd.del
    rw [if_neg this]
    exact h.at_ x (List.mem_append_left _ hx)
  · have : l ≠ c := fun q => by rw [q, hc] at e0; cases e0
    unfold Wd.del
    rw [if_neg this]
    exact h.old l (by rw [List.map_append, List.mem_append]; rintro (k | k); exact hl k; exact this (by simpa using k)) m0 e0
theorem drop (h : Hold W (cs ++ [(c, m)]) W') (hc : W c = none) : Hold W cs W' := by
  have nd := h.nd
  rw [List.map_append, List.nodup_append] at nd
  refine ⟨nd.1, fun x hx => h.at_ x (List.mem_append_left _ hx), fun l hl m0 e0 => h.old l (fun k => ?_) m0 e0⟩
  rw [List.map_append, List.mem_append] at k
  rcases k with k | k
  · exact hl k
  · have : l = c := by simpa using k
    rw [this, hc] at e0; cases e0
theorem pick {es : List (Addr × MO)} (h : Hold W cs W') (s : es.Sublist cs) : Hold W' es W' := ⟨(s.map _).nodup h.nd, fun x hx => h.at_ x (s.subset hx), fun _ _ _ h => h⟩
end Hold
structure SbS (x : Stq) : Prop where
  nd : (x.s.map (·.1)).Nodup
  sl : x.s.length < 64
  pl : x.p.length ≤ 60
structure SbE (x : Stq) (e : Ru) : Prop where
  v : e.1.vars.length + e.2.vars.length < 64
  a : (e.1.sub x.s.fn).depth ≤ 70 ∧ (e.1.sub x.s.fn).size ≤ 2000
  b : (e.2.sub x.s.fn).depth ≤ 70 ∧ (e.2.sub x.s.fn).size ≤ 2000
theorem SbE.new {x : Stq} {e : Ru} (h : SbE x e) : ((x.new e).sub x.s.fn).depth ≤ 70 ∧ ((x.new e).sub x.s.fn).size ≤ 2000 := by
  unfold Stq.new
  split
  · exact h.b
  · exact h.a
theorem SbS.stb {gs ss : List Ru} {x : Stq} (h : SbS x) (k : ∀ e, eqAt gs ss x = some e → SbE x e) : StB gs ss x := ⟨⟨h.nd, h.sl, fun e he => (k e he).v⟩, h.pl, fun e he => (k e he).new⟩
/-- terms of a stage -/
def Sm65 (ops : Sig) (t : Trm) : Prop := Wf ops 3 t ∧ t.depth ≤ 16 ∧ t.size ≤ 70
structure Ln65 (ops : Sig) (gs ss : List Ru) (s : Stg) : Prop where
  l : Sm65 ops s.l
  r : Sm65 ops s.r
  xl : s.xs.length ≤ 3
  fol : follow gs ss s.l s.xs = some s.r
  vis : Vis gs ss (Sm65 ops) s.l s.xs
  sb : ∀ x ∈ s.xs, SbS x ∧ ∃ e, eqAt gs ss x = some e ∧ SbE x e
structure G65 (ops : Sig) (m : Nat) (mt : Md) (gs : List Ru) (sg : List Stg) : Prop where
  tr : ∀ e ∈ gs, Tr m mt e.1 e.2
  ge : ∀ e ∈ gs, e.1.depth ≤ 140 ∧ e.1.size ≤ 100000 ∧ e.2.depth ≤ 140 ∧ e.2.size ≤ 100000
  ln : ∀ k s, sg[k]? = some s → Ln65 ops gs ((sg.take k).map Stg.e) s
theorem sm_wide {ops : Sig} {t : Trm} (h : Sm65 ops t) : wide t = false := by
  obtain ⟨_, a, b⟩ := h
  exact wide_no (by omega) (by omega)
theorem eqAt_more {gs gs' ss : List Ru} {x : Stq} {e : Ru} (h : eqAt gs ss x = some e) : eqAt (gs ++ gs') ss x = some e := by
  unfold eqAt at h ⊢
  split at h
  · cases h
  · rename_i h0
    rw [if_neg h0]
    cases hg : x.giv with
    | false => rw [hg] at h; rw [if_neg (by decide)] at h ⊢; exact h
    | true =>
      rw [hg] at h
      rw [if_pos rfl] at h ⊢
      have hl : x.i.toNat < gs.length := by
        by_cases q : x.i.toNat < gs.length
        · exact q
        · rw [List.getElem?_eq_none (by omega)] at h; cases h
      rw [List.getElem?_append_left hl]; exact h
theorem nxt_more {gs gs' ss : List Ru} {x : Stq} {t u : Trm} (h : nxt gs ss t x = some u) : nxt (gs ++ gs') ss t x = some u := by
  obtain ⟨e, e1, e2⟩ := nxt_some h
  exact nxt_of (eqAt_more e1) e2
theorem follow_more {gs gs' ss : List Ru} : ∀ {xs : List Stq} {t u : Trm}, follow gs ss t xs = some u → follow (gs ++ gs') ss t xs = some u
  | [], t, u, h => h
  | x :: xs, t, u, h => by
    rw [follow] at h ⊢
    cases hn : nxt gs ss t x with
    | none => rw [hn] at h; cases h
    | some w => rw [hn, Option.bind_some] at h; rw [nxt_more hn, Option.bind_some]; exact follow_more h
theorem Vis.more {gs gs' ss : List Ru} {P : Trm → Prop} {t : Trm} {xs : List Stq} (h : Vis gs ss P t xs) : Vis (gs ++ gs') ss P t xs := by
  induction h with
  | nil h => exact .nil h
  | cons h k _ ih => exact .cons h (nxt_more k) ih
theorem Ln65.more {ops : Sig} {gs gs' ss : List Ru} {s : Stg} (h : Ln65 ops gs ss s) : Ln65 ops (gs ++ gs') ss s :=
  ⟨h.l, h.r, h.xl, follow_more h.fol, h.vis.more, fun x hx => by
    obtain ⟨a, e, b, c⟩ := h.sb x hx
    exact ⟨a, e, eqAt_more b, c⟩⟩
section
variable {ops : Sig} {m : Nat} {mt : Md} {gs : List Ru} {sg : List Stg}
theorem G65.nil : G65 ops m mt [] [] := ⟨fun _ h => (by cases h), fun _ h => (by cases h), fun k s h => (by cases h)⟩
theorem G65.more (h : G65 ops m mt gs sg) {gs' : List Ru} (a : ∀ e ∈ gs', Tr m mt e.1 e.2) (b : ∀ e ∈ gs', e.1.depth ≤ 140 ∧ e.1.size ≤ 100000 ∧ e.2.depth ≤ 140 ∧ e.2.size ≤ 100000) : G65 ops m mt (gs ++ gs') sg :=
  ⟨fun e he => (List.mem_append.mp he).elim (h.tr e) (a e), fun e he => (List.mem_append.mp he).elim (h.ge e) (b e), fun k s hs => (h.ln k s hs).more⟩
theorem G65.snoc (h : G65 ops m mt gs sg) {s : Stg} (k : Ln65 ops gs (sg.map Stg.e) s) : G65 ops m mt gs (sg ++ [s]) := ⟨h.tr, h.ge, fun j y hy => by
  by_cases q : j < sg.length
  · rw [List.getElem?_append_left q] at hy
    rw [List.take_append_of_le_length (by omega)]
    exact h.ln j y hy
  · rw [List.getElem?_append_right (by omega)] at hy
    have e : j - sg.length = 0 := by
      by_cases z : j - sg.length = 0
      · exact z
      · rw [List.getElem?_eq_none (by simp; omega)] at hy; cases hy
    rw [e] at hy
    cases hy
    have : j = sg.length := by omega
    subst this
    rw [List.take_left']
    · exact k
    · rfl⟩
theorem G65.sm (h : G65 ops m mt gs sg) : ∀ s ∈ sg, Sm65 ops s.l ∧ Sm65 ops s.r := fun s hs => by
  obtain ⟨k, hk, e⟩ := List.mem_iff_getElem.mp hs
  have K := h.ln k s (by rw [List.getElem?_eq_getElem hk, e])
  exact ⟨K.l, K.r⟩
/-- stages that is_derivation can be asked about -/
structure D65 (ops : Sig) (gs : List Ru) (sg : List Stg) : Prop where
  len : sg.length ≤ 8
  g : EqsOk gs
  s : ∀ s ∈ sg, Sm65 ops s.l ∧ Sm65 ops s.r
  st : ∀ k s, sg[k]? = some s → s.xs.length ≤ 10 ∧ ∀ x ∈ s.xs, StB gs ((sg.take k).map Stg.e) x
theorem D65.snoc (h : D65 ops gs sg) (hl : sg.length < 8) {s : Stg} (a : Sm65 ops s.l ∧ Sm65 ops s.r) (b : s.xs.length ≤ 10) (c : ∀ x ∈ s.xs, StB gs (sg.map Stg.e) x) : D65 ops gs (sg ++ [s]) where
  len := by rw [List.length_append, List.length_singleton]; omega
  g := h.g
  s := fun y hy => by
    rcases List.mem_append.mp hy with q | q
    · exact h.s y q
    · rw [List.mem_singleton.mp q]; exact a
  st := fun j y hy => by
    by_cases q : j < sg.length
    · rw [List.getElem?_append_left q] at hy
      rw [List.take_append_of_le_length (by omega)]
      exact h.st j y hy
    · rw [List.getElem?_append_right (by omega)] at hy
      have e : j - sg.length = 0 := by
        by_cases z : j - sg.length = 0
        · exact z
        · rw [List.getElem?_eq_none (by simp; omega)] at hy; cases hy
      rw [e] at hy
      cases hy
      have : j = sg.length := by omega
      subst this
      rw [List.take_left' rfl]
      exact ⟨b, c⟩
theorem D65.take (h : D65 ops gs sg) (n : Nat) : D65 ops gs (sg.take n) where
  len := by have := h.len; rw [List.length_take]; omega
  g := h.g
  s := fun s hs => h.s s (List.mem_of_mem_take hs)
  st := fun k s hs => by
    rw [List.getElem?_take] at hs
    split at hs
    · rw [List.take_take, Nat.min_eq_left (by omega)]; exact h.st k s hs
    · cases hs
theorem G65.d (h : G65 ops m mt gs sg) (hl : sg.length ≤ 8) (hg : gs.length ≤ 100) : D65 ops gs sg where
  len := hl
  g := ⟨by omega, h.ge⟩
  s := h.sm
  st := fun k s hs => by
    have K := h.ln k s hs
    refine ⟨by have := K.xl; omega, fun x hx => ?_⟩
    obtain ⟨a, e, b, c⟩ := K.sb x hx
    exact a.stb fun e' he => by rw [b] at he; cases he; exact c
/-- the drawn stages are a derivation -/
theorem G65.go (h : G65 ops m mt gs sg) {z : Stg} (hz : sg.getLast? = some z) : derB gs z.l z.r sg = true := by
  unfold derB
  rw [hz]
  dsimp only
  rw [decide_eq_true rfl, decide_eq_true rfl, Bool.true_and, Bool.and_true]
  have : ∀ {sg dn : List Stg}, (∀ k s, sg[k]? = some s → Ln65 ops gs ((dn ++ sg.take k).map Stg.e) s) → derGo gs dn sg = true := fun {sg} => by
    induction sg with
    | nil => intro dn _; rfl
    | cons s sg ih =>
      intro dn hk
      have K := hk 0 s rfl
      rw [List.take_zero, List.append_nil] at K
      rw [derGo, Bool.and_eq_true]
      constructor
      · obtain ⟨_, us, hv⟩ := back_vis (gs' := gs) (ss' := dn.map Stg.e) (fun v hv => sm_wide hv) K.vis K.fol (fun _ _ _ h => h) _ K.fol
        unfold ledB
        rw [hv]
        dsimp only
        rw [← visR_follow hv, K.fol]
        exact decide_eq_true rfl
      · refine ih fun k y hy => ?_
        have := hk (k + 1) y hy
        rw [List.take_succ_cons] at this
        rw [List.append_assoc]; exact this
  exact this h.ln
end
theorem Ln65.nil {ops : Sig} {gs ss : List Ru} {t : Trm} (h : Sm65 ops t) : Ln65 ops gs ss ⟨t, t, []⟩ := ⟨h, h, Nat.zero_le _, rfl, .nil h, fun _ h => by cases h⟩
theorem Vis.snocR {gs gs' ss : List Ru} {P : Trm → Prop} {t u v : Trm} {x : Stq} {xs : List Stq} (h : Vis gs ss P t xs) (hf : follow gs ss t xs = some u) (k : nxt (gs ++ gs') ss u x = some v) (hv : P v) : Vis (gs ++ gs') ss P t (xs ++ [x]) := h.more.snoc (follow_more hf) k hv
theorem TS.sbe {ops : Sig} {m : Nat} {mt : Md} {t t' : Trm} {i : Int} {r : Ru} {x : Stq} (h : TS ops m mt t i r x t') (hd : t.depth ≤ 50) (hz : t.size ≤ 1000) : SbS x ∧ SbE x r := by
  obtain ⟨a, b, c, d⟩ := nxtE_some h.nx
  have h1 := at_size a
  have h2 : t'.at x.p = (x.new r).sub x.s.fn := by rw [d]; exact at_put a
  have h3 : t'.isPos x.p = true := by rw [d]; exact put_isPos a
  have h4 := at_size h3
  have h5 := h.d
  have h6 := h.z
  have h7 := h.sl
  obtain ⟨v1, v2⟩ := bnd_vars b
  rw [h2] at h4
  rw [c] at h1
  refine ⟨⟨h.nd, by omega, by omega⟩, by omega, ?_, ?_⟩
  · unfold Stq.old at h1
    unfold Stq.new at h4
    split at h1 <;> rename_i q
    · exact ⟨by omega, by omega⟩
    · rw [if_neg q] at h4; exact ⟨by omega, by omega⟩
  · unfold Stq.old at h1
    unfold Stq.new at h4
    split at h1 <;> rename_i q
    · rw [if_pos q] at h4; exact ⟨by omega, by omega⟩
    · exact ⟨by omega, by omega⟩
theorem Ln65.step {ops : Sig} {m : Nat} {mt : Md} {gs ss : List Ru} {t u u' : Trm} {xs : List Stq} {r : Ru} {x : Stq} (h : Ln65 ops gs ss ⟨t, u, xs⟩) (hl : xs.length < 3) (T : TS ops m mt u gs.length r x u') (hu : Sm65 ops u') : Ln65 ops (gs ++ [r]) ss ⟨t, u', xs ++ [x]⟩ := by
  have he : eqAt (gs ++ [r]) ss x = some r := by
    unfold eqAt
    rw [if_neg (by rw [T.i]; omega), if_pos T.giv, T.i, Int.toNat_natCast, List.getElem?_append_right (Nat.le_refl _), Nat.sub_self]
    rfl
  have hn : nxt (gs ++ [r]) ss u x = some u' := nxt_of he T.nx
  refine ⟨h.l, hu, by rw [List.length_append, List.length_singleton]; exact hl, ?_, h.vis.snocR h.fol hn hu, fun y hy => ?_⟩
  · rw [follow_app, follow_more h.fol, Option.bind_some, follow, hn]
    rfl
  · rcases List.mem_append.mp hy with q | q
    · exact h.more.sb y q
    · rw [List.mem_singleton.mp q]
      have hr := h.r
      obtain ⟨_, d1, z1⟩ := hr
      have d1 : u.depth ≤ 16 := d1
      have z1 : u.size ≤ 70 := z1
      obtain ⟨a, b⟩ := T.sbe (by omega) (by omega)
      exact ⟨a, r, he, b⟩
theorem get_none_of {s : Sb} {v : Int} (h : v ∉ s.map (·.1)) : s.get v = none := by
  have := get_isSome (s := s) (v := v)
  rw [decide_eq_false h] at this
  cases e : s.get v with
  | none => rfl
  | some x => rw [e] at this; cases this
/-- what may stand as a last stage -/
structure St65 (ops : Sig) (gs ss : List Ru) (s : Stg) : Prop where
  sm : Sm65 ops s.l ∧ Sm65 ops s.r
  xl : s.xs.length ≤ 10
  st : ∀ x ∈ s.xs, StB gs ss x
theorem D65.put {ops : Sig} {gs : List Ru} {sg : List Stg} (h : D65 ops gs sg) (hl : sg.length < 8) {s : Stg} (k : St65 ops gs (sg.map Stg.e) s) : D65 ops gs (sg ++ [s]) := h.snoc hl k.sm k.xl k.st
theorem Ln65.st {ops : Sig} {gs ss : List Ru} {s : Stg} (h : Ln65 ops gs ss s) : St65 ops gs ss s := ⟨⟨h.l, h.r⟩, by have := h.xl; omega, fun x hx => by
  obtain ⟨a, e, b, c⟩ := h.sb x hx
  exact a.stb fun e' he => by rw [b] at he; cases he; exact c⟩
theorem Ln65.flip {ops : Sig} {gs ss : List Ru} {s : Stg} (h : Ln65 ops gs ss s) {k : Nat} {x : Stq} (hx : s.xs[k]? = some x) : St65 ops gs ss ⟨s.l, s.r, s.xs.take k ++ [⟨x.giv, x.i, !x.fwd, x.p, x.s⟩] ++ s.xs.drop (k + 1)⟩ := by
  have B := h.st
  have hl := h.xl
  refine ⟨⟨h.l, h.r⟩, by dsimp only; rw [List.length_append, List.length_append, List.length_take, List.length_drop, List.length_singleton]; omega, fun y hy => ?_⟩
  rcases List.mem_append.mp hy with q | q
  · rcases List.mem_append.mp q with q | q
    · exact B.st y (List.mem_of_mem_take q)
    · rw [List.mem_singleton.mp q]
      obtain ⟨⟨a1, a2, a3⟩, e, b, c⟩ := h.sb x (List.mem_of_getElem? hx)
      refine SbS.stb ⟨a1, a2, a3⟩ fun e' he => ?_
      have he : eqAt gs ss x = some e' := he
      rw [b] at he; cases he
      exact ⟨c.v, c.a, c.b⟩
  · exact B.st y (List.mem_of_mem_drop q)
end DL

namespace DL
open PySem PySem.Spec PyProof.Rows L2
theorem get_put {s : Sb} {x v : Int} {t : Trm} (h : s.get x = none) : Sb.get (s ++ [(x, t)]) v = if v = x then some t else s.get v := by
  rw [get_snoc]
  by_cases e : v = x
  · subst e; rw [h]; simp
  · rw [if_neg e]
    cases q : s.get v with
    | none => simp; exact fun z => e z.symm
    | some u => simp
/-- what is reached through the bindings -/
inductive Rch (s : Sb) : Int → Int → Prop
  | refl (v : Int) : Rch s v v
  | step {v w u : Int} {t : Trm} (h : s.get v = some t) (k : w ∈ occ t) (r : Rch s w u) : Rch s v u
theorem Rch.trans {s : Sb} {u v w : Int} (h : Rch s u v) (k : Rch s v w) : Rch s u w := by
  induction h with
  | refl => exact k
  | step a b _ ih => exact .step a b (ih k)
/-- no circle -/
def Ranked (s : Sb) (rk : Int → Nat) : Prop := ∀ v t, s.get v = some t → ∀ w ∈ occ t, rk w < rk v
def Sol (s : Sb) (f : Int → Trm) : Prop := ∀ v t, s.get v = some t → f v = t.sub f
theorem above (rk : Int → Nat) : ∀ vs : List Int, ∃ N, ∀ v ∈ vs, rk v < N
  | [] => ⟨0, fun _ h => by cases h⟩
  | v :: vs => by
    obtain ⟨N, h⟩ := above rk vs
    refine ⟨N + rk v + 1, fun w hw => ?_⟩
    rcases List.mem_cons.mp hw with rfl | hw
    · omega
    · have := h w hw; omega
open Classical in
theorem rank_snoc {s : Sb} {rk : Int → Nat} {x : Int} {t : Trm} (h : Ranked s rk) (hx : s.get x = none) (hr : ∀ w ∈ occ t, ¬ Rch s w x) : ∃ rk', Ranked (s ++ [(x, t)]) rk' := by
  obtain ⟨N, hN⟩ := above rk (occ t)
  refine ⟨fun w => if Rch s w x then rk w + N else rk w, fun v u e w hw => ?_⟩
  rw [get_put hx] at e
  dsimp only
  split at e
  · rename_i q
    cases e; subst q
    rw [if_neg (hr w hw), if_pos (.refl _)]
    have := hN w hw; omega
  · have h1 := h v u e w hw
    by_cases a : Rch s w x
    · rw [if_pos a, if_pos (.step e hw a)]; omega
    · rw [if_neg a]; split <;> omega
def fulN (s : Sb) : Nat → Int → Trm
  | 0, v => .var v
  | n + 1, v => match s.get v with
    | some t => t.sub (fulN s n)
    | none => .var v
def ful (s : Sb) (rk : Int → Nat) (v : Int) : Trm := fulN s (rk v + 1) v
section
variable {s : Sb} {rk : Int → Nat}
theorem fulN_eq (h : Ranked s rk) : ∀ (n m : Nat) (v : Int), rk v < n → rk v < m → fulN s n v = fulN s m v
  | 0, _, _, a, _ => by omega
  | _ + 1, 0, _, _, b => by omega
  | n + 1, m + 1, v, a, b => by
    rw [fulN, fulN]
    cases e : s.get v with
    | none => rfl
    | some t => exact sub_congr t fun w hw => fulN_eq h n m w (by have := h v t e w hw; omega) (by have := h v t e w hw; omega)
theorem ful_none {v : Int} (h : s.get v = none) : ful s rk v = .var v := by unfold ful; rw [fulN, h]
theorem ful_sol (h : Ranked s rk) : Sol s (ful s rk) := fun v t e => by
  show fulN s (rk v + 1) v = _
  rw [fulN, e]
  exact sub_congr t fun w hw => fulN_eq h _ _ w (h v t e w hw) (by omega)
theorem rk_ind (h : Ranked s rk) {P : Int → Prop} (hn : ∀ v, s.get v = none → P v) (hs : ∀ v t, s.get v = some t → (∀ w ∈ occ t, P w) → P v) : ∀ v, P v := by
  have go : ∀ n v, rk v < n → P v := fun n => by
    induction n with
    | zero => intro v q; omega
    | succ n ih =>
      intro v q
      cases e : s.get v with
      | none => exact hn v e
      | some t => exact hs v t e fun w hw => ih w (by have := h v t e w hw; omega)
  exact fun v => go _ v (Nat.lt_succ_self _)
theorem ful_mgu (h : Ranked s rk) {f : Int → Trm} (S : Sol s f) : ∀ v, (ful s rk v).sub f = f v := rk_ind h (fun v e => by rw [ful_none e]; rfl) fun v t e ih => by
  rw [ful_sol h v t e, sub_sub, S v t e]
  exact sub_congr t ih
theorem ful_nodom (h : Ranked s rk) : ∀ v, ∀ w ∈ occ (ful s rk v), s.get w = none := rk_ind h (fun v e w hw => by
  rw [ful_none e] at hw
  have : w = v := by simpa [occ, Trm.syms, Sy.int?] using hw
  rw [this]; exact e) fun v t e ih w hw => by
  rw [ful_sol h v t e] at hw
  obtain ⟨u, hu, hw⟩ := occ_subE t hw
  exact ih u hu w hw
theorem ful_uniq (h : Ranked s rk) {f : Int → Trm} (S : Sol s f) (N : ∀ v, s.get v = none → f v = .var v) : ∀ v, f v = ful s rk v := rk_ind h (fun v e => by rw [N v e, ful_none e]) fun v t e ih => by
  rw [S v t e, ful_sol h v t e]
  exact sub_congr t ih
end
theorem occ_size {f : Int → Trm} {v : Int} (t : Trm) : v ∈ occ t → (f v).size ≤ (t.sub f).size := by
  induction t using Trm.ind with
  | hv w =>
    intro h
    have : v = w := by simpa [occ, Trm.syms, Sy.int?] using h
    rw [this]; exact Nat.le_refl _
  | ha g ts ih =>
    intro h
    obtain ⟨u, hu, hv⟩ := occ_sub_mem h
    have a := ih u hu hv
    have b := size_mem (t := u.sub f) (ts := ts.map (Trm.sub f)) (List.mem_map_of_mem hu)
    rw [Trm.sub, subs_map, Trm.size]
    omega
theorem Rch.size {s : Sb} {f : Int → Trm} (S : Sol s f) {v w : Int} (h : Rch s v w) : (f w).size ≤ (f v).size := by
  induction h with
  | refl => exact Nat.le_refl _
  | @step v w u t a b _ ih =>
    have := occ_size (f := f) t b
    rw [← S v t a] at this
    omega
/-- walking along the bindings -/
inductive Wlk (s : Sb) : Trm → Nat → Trm → Prop
  | stop {t : Trm} (h : ∀ v, t = .var v → s.get v = none) : Wlk s t 0 t
  | go {v : Int} {t u : Trm} {n : Nat} (h : s.get v = some t) (r : Wlk s t n u) : Wlk s (.var v) (n + 1) u
theorem Wlk.sol {s : Sb} {f : Int → Trm} (S : Sol s f) {t u : Trm} {n : Nat} (h : Wlk s t n u) : u.sub f = t.sub f := by
  induction h with
  | stop => rfl
  | @go v t u n h _ ih => rw [ih]; exact (S v t h).symm
open Classical in
def szs (f : Int → Trm) (p : List (Trm × Trm)) : Nat := (p.map fun z => (z.1.sub f).size).sum
theorem szs_snoc {f : Int → Trm} {p : List (Trm × Trm)} {z : Trm × Trm} : szs f (p ++ [z]) = szs f p + (z.1.sub f).size := by
  unfold szs; rw [List.map_append, List.sum_append]; simp
theorem sol_snoc {s : Sb} {x : Int} {t : Trm} {f : Int → Trm} (hx : s.get x = none) : Sol (s ++ [(x, t)]) f ↔ Sol s f ∧ f x = t.sub f := by
  constructor
  · intro h
    refine ⟨fun v u e => h v u ?_, h x t ?_⟩
    · rw [get_put hx, if_neg fun q => by subst q; rw [hx] at e; cases e]; exact e
    · rw [get_put hx, if_pos rfl]
  · rintro ⟨h, k⟩ v u e
    rw [get_put hx] at e
    split at e
    · rename_i q; cases e; rw [q]; exact k
    · exact h v u e
theorem occ_of {f : Str} {ts : List Trm} {t : Trm} (ht : t ∈ ts) {v : Int} (h : v ∈ occ t) : v ∈ occ (.app f ts) := by
  rw [occ_app]; exact occ_mem ht h
theorem size_pos (t : Trm) : 1 ≤ t.size := by have := pos_pos t; have := pos_length t; omega
end DL

namespace DL
open PySem PySem.Spec PyProof.Rows L2
theorem occ_one (v : Int) : v ∈ occ (Trm.var v) := by simp [occ, Trm.syms, Sy.int?]
theorem count_bound {A : Nat} : ∀ (N : Nat) (ks : List Nat), (∀ k ∈ ks, k < N) → (∀ k, ks.count k ≤ A) → ks.length ≤ A * N
  | 0, [], _, _ => by simp
  | 0, k :: ks, h, _ => absurd (h k List.mem_cons_self) (by omega)
  | N + 1, ks, h, hc => by
    have ih := count_bound (A := A) N (ks.filter fun k => !(k == N)) (fun k hk => by
      have a := List.mem_filter.mp hk
      have b := h k a.1
      have c : ¬ k = N := by simpa using a.2
      omega) fun k => Nat.le_trans (List.Sublist.count_le _ List.filter_sublist) (hc k)
    have e := List.length_eq_countP_add_countP (fun k => k == N) (l := ks)
    have c : ks.countP (fun k => k == N) ≤ A := hc N
    rw [← List.countP_eq_length_filter] at ih
    rw [Nat.mul_add, Nat.mul_one]
    have e2 : ks.countP (fun k => !(k == N)) = ks.countP (fun a => decide ¬(a == N) = true) := by
      congr 1
      funext a
      cases a == N <;> rfl
    rw [e2] at ih
    omega
def Stk (A : Nat) (l : Trm) (s : Sb) (p : List (Trm × Trm)) : Prop := ∃ ks : List Nat, ks.length = p.length ∧ (∀ (i k : Nat) (z : Trm × Trm), ks[i]? = some k → p[i]? = some z → ∀ f, Sol s f → k + (z.1.sub f).depth ≤ (l.sub f).depth) ∧ ks.Pairwise (· ≤ ·) ∧ ∀ k, ks.count k ≤ A
theorem Stk.len {A : Nat} {l : Trm} {s : Sb} {p : List (Trm × Trm)} (h : Stk A l s p) {f : Int → Trm} (S : Sol s f) : p.length ≤ A * (l.sub f).depth := by
  obtain ⟨ks, e, h, _, hc⟩ := h
  rw [← e]
  refine count_bound _ ks (fun k hk => ?_) hc
  obtain ⟨i, hi, q⟩ := List.mem_iff_getElem.mp hk
  have a := h i k (p[i]'(by omega)) (by rw [List.getElem?_eq_getElem hi, q]) (List.getElem?_eq_getElem _) f S
  have b := ((p[i]'(by omega)).1.sub f).depth_pos
  omega
theorem Stk.more {A : Nat} {l : Trm} {s s' : Sb} {p : List (Trm × Trm)} (h : Stk A l s p) (k : ∀ f, Sol s' f → Sol s f) : Stk A l s' p := by
  obtain ⟨ks, e, h, a, b⟩ := h
  exact ⟨ks, e, fun i n z h1 h2 f S => h i n z h1 h2 f (k f S), a, b⟩
theorem Stk.init {A : Nat} {l : Trm} {s : Sb} {p : List (Trm × Trm)} {z : Trm × Trm} (h : Stk A l s (p ++ [z])) : Stk A l s p := by
  obtain ⟨ks, e, h, a, b⟩ := h
  rcases List.eq_nil_or_concat ks with rfl | ⟨ks, k, rfl⟩
  · simp at e
  · rw [List.concat_eq_append] at *
    have e : ks.length = p.length := by simpa using e
    refine ⟨ks, e, fun i n y h1 h2 => ?_, (List.pairwise_append.mp a).1, fun k' => Nat.le_trans ?_ (b k')⟩
    · have hi : i < ks.length := (List.getElem?_eq_some_iff.mp h1).1
      exact h i n y (by rw [List.getElem?_append_left hi]; exact h1) (by rw [List.getElem?_append_left (by omega)]; exact h2)
    · rw [List.count_append]; omega
theorem Stk.push {A : Nat} {l a : Trm} {b : Trm} {s : Sb} {p : List (Trm × Trm)} {g : Str} {ts us : List Trm} (h : Stk A l s (p ++ [(a, b)])) (ea : ∀ f, Sol s f → (Trm.app g ts).sub f = a.sub f) (hl : ts.length = us.length) (hA : ts.length ≤ A) : Stk A l s (p ++ ts.zip us) := by
  obtain ⟨ks, e, h, hp, hc⟩ := h
  rcases List.eq_nil_or_concat ks with rfl | ⟨ks, k, rfl⟩
  · simp at e
  · rw [List.concat_eq_append] at *
    have e : ks.length = p.length := by simpa using e
    have zl : (ts.zip us).length = ts.length := by rw [List.length_zip]; omega
    have hk : ∀ x ∈ ks, x ≤ k := fun x hx => (List.pairwise_append.mp hp).2.2 x hx k (by simp)
    refine ⟨ks ++ List.replicate ts.length (k + 1), by rw [List.length_append, List.length_append, List.length_replicate, zl, e], fun i n z h1 h2 f S => ?_, ?_, fun k' => ?_⟩
    · by_cases hi : i < ks.length
      · rw [List.getElem?_append_left hi] at h1
        rw [List.getElem?_append_left (by omega)] at h2
        exact h i n z (by rw [List.getElem?_append_left hi]; exact h1) (by rw [List.getElem?_append_left (by omega)]; exact h2) f S
      · rw [List.getElem?_append_right (by omega)] at h1 h2
        have q := h ks.length k (a, b) (by rw [List.getElem?_append_right (by omega)]; simp) (by rw [List.getElem?_append_right (by omega), e]; simp) f S
        dsimp only at q
        rw [← ea f S, sub_app, Trm.depth] at q
        have hn : n = k + 1 := by
          have := List.mem_of_getElem? h1
          exact (List.mem_replicate.mp this).2
        have hz : z.1 ∈ ts := (List.of_mem_zip (a := z.1) (b := z.2) (List.mem_of_getElem? h2)).1
        have := Trm.depths_le (List.mem_map_of_mem (f := Trm.sub f) hz)
        omega
    · rw [List.pairwise_append]
      refine ⟨(List.pairwise_append.mp hp).1, List.pairwise_replicate.mpr (.inr (Nat.le_refl _)), fun x hx y hy => ?_⟩
      have := hk x hx
      rw [(List.mem_replicate.mp hy).2]
      omega
    · rw [List.count_append, List.count_replicate]
      by_cases z : k + 1 = k'
      · rw [List.count_eq_zero.mpr fun q => by have := hk k' q; omega, if_pos (by simpa using z)]
        omega
      · rw [if_neg (by simpa using z)]
        have := hc k'
        rw [List.count_append] at this
        omega
structure Slv (l r : Trm) (vs : Sb) : Prop where
  eq : l.sub vs.fn = r.sub vs.fn
  mgu : ∀ f : Int → Trm, l.sub f = r.sub f → ∀ v, (vs.fn v).sub f = f v
  nd : (vs.map (·.1)).Nodup
  key : ∀ v ∈ vs.map (·.1), v ∈ occ l ++ occ r
  val : ∀ v t, vs.get v = some t → ∀ w ∈ occ t, w ∈ occ l ++ occ r ∧ w ∉ vs.map (·.1)
  ori : ∀ v w, vs.get v = some (.var w) → w < v
  nb : ∀ v t, vs.get v = some t → t.big = false
/-- values found so far -/
structure Vals (s : Sb) (rk : Int → Nat) (vs : Sb) : Prop where
  nd : (vs.map (·.1)).Nodup
  sub : ∀ v ∈ vs.map (·.1), v ∈ s.map (·.1)
  val : ∀ v t, vs.get v = some t → t = ful s rk v
  nb : ∀ v t, vs.get v = some t → t.big = false
theorem key_get {s : Sb} {v : Int} (h : v ∈ s.map (·.1)) : ∃ t, s.get v = some t := by
  have : (s.get v).isSome = true := by rw [get_isSome]; exact decide_eq_true h
  exact Option.isSome_iff_exists.mp this
theorem Vals.len {s vs : Sb} {rk : Int → Nat} (V : Vals s rk vs) : vs.length ≤ s.length := by
  have := nodup_sub_len V.nd V.sub
  rwa [List.length_map, List.length_map] at this
theorem Vals.all {s vs : Sb} {rk : Int → Nat} (V : Vals s rk vs) (h : s.length ≤ vs.length) : ∀ v ∈ s.map (·.1), v ∈ vs.map (·.1) := fun v hv => Classical.byContradiction fun k => by
  have := nodup_sub_len (List.nodup_cons.mpr ⟨k, V.nd⟩) fun w hw => by
    rcases List.mem_cons.mp hw with rfl | hw
    · exact hv
    · exact V.sub w hw
  rw [List.length_cons, List.length_map, List.length_map] at this
  omega
theorem Vals.fn {s vs : Sb} {rk : Int → Nat} (V : Vals s rk vs) {w : Int} (h : w ∈ s.map (·.1) → w ∈ vs.map (·.1)) : vs.fn w = ful s rk w := by
  unfold Sb.fn
  cases e : vs.get w with
  | some t => exact V.val w t e
  | none =>
    have : s.get w = none := get_none_of fun k => get_nokey e (h k)
    rw [ful_none this]; rfl
theorem Vals.snoc {s vs : Sb} {rk : Int → Nat} (V : Vals s rk vs) {x : Int} {t : Trm} (e : s.get x = some t) (hx : vs.get x = none) (nb : (ful s rk x).big = false) : Vals s rk (vs ++ [(x, ful s rk x)]) := by
  refine ⟨?_, fun v hv => ?_, fun v u q => ?_, fun v u q => ?_⟩
  · rw [List.map_append, List.nodup_append]
    refine ⟨V.nd, by simp, fun a ha b hb => ?_⟩
    have hb : b = x := by simpa using hb
    rw [hb]
    exact fun q => get_nokey hx (q ▸ ha)
  · rw [List.map_append, List.mem_append] at hv
    rcases hv with hv | hv
    · exact V.sub v hv
    · have : v = x := by simpa using hv
      rw [this]; exact get_key e
  · rw [get_put hx] at q
    split at q
    · rename_i z; cases q; rw [z]
    · exact V.val v u q
  · rw [get_put hx] at q
    split at q
    · cases q; exact nb
    · exact V.nb v u q
theorem ful_occ {l r : Trm} {s : Sb} {rk : Int → Nat} (R : Ranked s rk) (so : ∀ v t, s.get v = some t → v ∈ occ l ++ occ r ∧ ∀ w ∈ occ t, w ∈ occ l ++ occ r) : ∀ v, v ∈ occ l ++ occ r → ∀ w ∈ occ (ful s rk v), w ∈ occ l ++ occ r := rk_ind R (fun v e hv w hw => by
  rw [ful_none e] at hw
  have : w = v := by simpa [occ, Trm.syms, Sy.int?] using hw
  rw [this]; exact hv) fun v t e ih hv w hw => by
  rw [ful_sol R v t e] at hw
  obtain ⟨u, hu, hw⟩ := occ_subE t hw
  exact ih u hu ((so v t e).2 u hu) w hw
/-- there is one solved form -/
theorem Slv.uniq {l r : Trm} {vs ws : Sb} (h : Slv l r vs) (k : Slv l r ws) : vs.fn = ws.fn := by
  have nk : ∀ {vs ws : Sb}, Slv l r vs → Slv l r ws → ∀ w, vs.get w = none → ws.fn w = .var w := fun {vs ws} h k w e => by
    have hw : vs.fn w = .var w := by unfold Sb.fn; rw [e]; rfl
    have a := k.mgu _ h.eq w
    rw [hw] at a
    cases q : ws.fn w with
    | app f ts => rw [q, sub_app] at a; cases a
    | var u =>
      rw [q] at a
      have a : vs.fn u = .var w := a
      have z : u = w := Classical.byContradiction fun ne => by
        have l1 : u < w := by
          unfold Sb.fn at q
          cases g : ws.get w with
          | none => rw [g] at q; cases q; exact absurd rfl ne
          | some t => rw [g] at q; cases q; exact k.ori w u g
        have l2 : w < u := by
          unfold Sb.fn at a
          cases g : vs.get u with
          | none => rw [g] at a; cases a; exact absurd rfl ne
          | some t => rw [g] at a; cases a; exact h.ori u w g
        omega
      rw [z]
  funext v
  have a := h.mgu _ k.eq v
  rw [← a]
  cases e : vs.get v with
  | none =>
    have hv : vs.fn v = .var v := by unfold Sb.fn; rw [e]; rfl
    rw [hv]; exact (nk h k v e).symm
  | some t =>
    have hv : vs.fn v = t := by unfold Sb.fn; rw [e]; rfl
    rw [hv]
    have : t.sub ws.fn = t.sub Trm.var := sub_congr t fun w hw => nk h k w (get_none_of (h.val v t e w hw).2)
    rw [this, sub_id]
end DL

namespace DL
open PySem PySem.Spec PyProof.Rows L2
def LT (T : List Trm) (t : Trm) : Prop := t.size = 1 ∨ t ∈ T
inductive PG (T : List Trm) : Trm → Trm → Prop
  | base {a b : Trm} (h : LT T a) (k : LT T b) : PG T a b
  | dec {f g : Str} {ts us : List Trm} (h : ∀ z ∈ ts.zip us, PG T z.1 z.2) : PG T (.app f ts) (.app g us)
theorem Wlk.app {s : Sb} {f : Str} {ts : List Trm} {n : Nat} {u : Trm} (h : Wlk s (.app f ts) n u) : u = .app f ts := by
  cases h with
  | stop => rfl
theorem PG.symm {T : List Trm} {a b : Trm} (h : PG T a b) : PG T b a := by
  induction h with
  | base h k => exact .base k h
  | @dec f g ts us h ih =>
    refine .dec fun z hz => ?_
    have : (z.2, z.1) ∈ ts.zip us := by
      obtain ⟨i, hi, e⟩ := List.mem_iff_getElem.mp hz
      have hi' := hi
      rw [List.length_zip] at hi'
      rw [List.getElem_zip] at e
      cases e
      exact List.mem_iff_getElem.mpr ⟨i, by rw [List.length_zip]; omega, by rw [List.getElem_zip]⟩
    exact ih _ this
end DL

namespace DL
open PySem PySem.Spec PyProof.Rows L2
/-- a text's own question -/
def aM0 (r : RDM) (o : AE) : AE := fun δ W Q => o δ W fun x W1 => (∃ z, x = .str z) ∧ r x [] W1 Q
def dIsdigit : RDM := fun x vs W Q => ∃ a, x = .str a ∧ vs = [] ∧ Q (.bl (Txt.isdigit a)) W
end DL

namespace DL
open PySem PySem.Spec PyProof.Rows L2
def sing (x : Int) (t : Trm) (v : Int) : Trm := if v = x then t else .var v
theorem sub_sing {x : Int} {t u : Trm} (h : x ∉ occ u) : u.sub (sing x t) = u := by
  rw [sub_congr (s := sing x t) (s' := Trm.var) u fun v hv => (if_neg fun (e : v = x) => h (by rw [← e]; exact hv)), sub_id]
theorem occ_sub {f : Int → Trm} {u v : Int} (t : Trm) : u ∈ occ t → v ∈ occ (f u) → v ∈ occ (t.sub f) := by
  induction t using Trm.ind with
  | hv y =>
    intro h k
    have : u = y := by simpa [occ, Trm.syms, Sy.int?] using h
    subst this; exact k
  | ha g ts ih =>
    intro h k
    obtain ⟨c, hc, hu⟩ := occ_sub_mem h
    rw [sub_app]
    exact occ_of (List.mem_map_of_mem hc) (ih c hc hu k)
theorem rch_occ {s : Sb} {rk : Int → Nat} (R : Ranked s rk) {v w : Int} (h : Rch s v w) : s.get w = none → w ∈ occ (ful s rk v) := by
  induction h with
  | refl v => intro e; rw [ful_none e]; exact occ_one v
  | @step v w u t a b _ ih =>
    intro e
    rw [ful_sol R v t a]
    exact occ_sub t b (ih e)
/-- a state of the loop, with the terms that it stands for -/
structure ESt (T : List Trm) (l r : Trm) (se : Sb) (pe : List (Trm × Trm)) (tr : Sb) (rk : Int → Nat) : Prop where
  rkd : Ranked tr rk
  fn : ∀ v, se.fn v = ful tr rk v
  nd : (se.map (·.1)).Nodup
  key : ∀ v, v ∈ se.map (·.1) ↔ v ∈ tr.map (·.1)
  uni : ∀ f : Int → Trm, l.sub f = r.sub f ↔ (Sol tr f ∧ ∀ z ∈ pe, z.1.sub f = z.2.sub f)
  ori : ∀ v w, se.get v = some (.var w) → w < v
  so : ∀ v t, tr.get v = some t → v ∈ occ l ++ occ r ∧ ∀ w ∈ occ t, w ∈ occ l ++ occ r
  lt : ∀ v t, tr.get v = some t → LT T t
  gh : ∀ z ∈ pe, ∃ g : Trm × Trm, PG T g.1 g.2 ∧ z.1.sub se.fn = g.1.sub se.fn ∧ z.2.sub se.fn = g.2.sub se.fn ∧ (∀ w ∈ occ g.1, w ∈ occ l ++ occ r) ∧ ∀ w ∈ occ g.2, w ∈ occ l ++ occ r
  sz : ∀ f : Int → Trm, Sol tr f → szs f pe ≤ (l.sub f).size
  dp : ∀ f : Int → Trm, Sol tr f → ∀ z ∈ pe, ((z.1.sub f).depth ≤ (l.sub f).depth ∧ (z.1.sub f).size ≤ (l.sub f).size) ∧ (z.2.sub f).depth ≤ (r.sub f).depth ∧ (z.2.sub f).size ≤ (r.sub f).size
section
variable {T : List Trm} {l r : Trm} {se tr : Sb} {rk : Int → Nat} {pe p : List (Trm × Trm)} {a b : Trm}
theorem ESt.fnE (E : ESt T l r se pe tr rk) : se.fn = ful tr rk := funext E.fn
theorem ESt.sol (E : ESt T l r se pe tr rk) : Sol tr se.fn := by rw [E.fnE]; exact ful_sol E.rkd
theorem ESt.fx (E : ESt T l r se pe tr rk) {f : Int → Trm} (S : Sol tr f) (t : Trm) : (t.sub se.fn).sub f = t.sub f := by
  rw [sub_sub, E.fnE]
  exact sub_congr t fun w _ => ful_mgu E.rkd S w
theorem ESt.trn (E : ESt T l r se pe tr rk) {x : Int} (h : tr.get x = none) : se.get x = none := get_none_of fun k => get_nokey h ((E.key x).mp k)
theorem ESt.len (E : ESt T l r se pe tr rk) : ∀ v ∈ se.map (·.1), v ∈ occ l ++ occ r := fun v hv => by
  obtain ⟨t, e⟩ := key_get ((E.key v).mp hv)
  exact (E.so v t e).1
def bindE (s : Sb) (x : Int) (t : Trm) : Sb := s.map (fun z => (z.1, z.2.sub (sing x t))) ++ [(x, t)]
theorem bindE_keys (s : Sb) (x : Int) (t : Trm) : (bindE s x t).map (·.1) = s.map (·.1) ++ [x] := by
  unfold bindE; rw [List.map_append, List.map_map]; rfl
theorem get_mapv {g : Trm → Trm} {v : Int} : ∀ {s : Sb}, Sb.get (s.map fun z => (z.1, g z.2)) v = (s.get v).map g
  | [] => rfl
  | z :: s => by
    have ih := get_mapv (g := g) (v := v) (s := s)
    unfold Sb.get at ih ⊢
    rw [List.map_cons, List.find?_cons, List.find?_cons]
    by_cases h : z.1 = v
    · simp [h]
    · simp only [h, decide_false]; exact ih
theorem bindE_get {s : Sb} {x : Int} {t : Trm} (hx : s.get x = none) (v : Int) : (bindE s x t).get v = if v = x then some t else (s.get v).map (Trm.sub (sing x t)) := by
  unfold bindE
  rw [get_put (by rw [get_mapv, hx]; rfl), get_mapv]
theorem bindE_fn {s : Sb} {x : Int} {t : Trm} (hx : s.get x = none) (v : Int) : (bindE s x t).fn v = (s.fn v).sub (sing x t) := by
  unfold Sb.fn
  rw [bindE_get hx]
  by_cases h : v = x
  · subst h
    rw [if_pos rfl, hx]
    show t = sing v t v
    unfold sing; rw [if_pos rfl]
  · rw [if_neg h]
    cases s.get v with
    | none =>
      show Trm.var v = sing x t v
      unfold sing; rw [if_neg h]
    | some u => rfl
/-- a variable is bound -/
theorem ESt.bind (E : ESt T l r se (p ++ [(a, b)]) tr rk) {x : Int} {B c : Trm} (hx : tr.get x = none) (hxV : x ∈ occ l ++ occ r) (hB : B = c.sub se.fn) (hc : LT T c) (hcV : ∀ w ∈ occ c, w ∈ occ l ++ occ r) (hn : x ∉ occ B) (ho : ∀ w, B = .var w → w < x)
    (hE : ∀ f, Sol tr f → (a.sub f = b.sub f ↔ f x = B.sub f)) : ∃ rk', ESt T l r (bindE se x B) p (tr ++ [(x, c)]) rk' := by
  have hxe := E.trn hx
  have hp : ∀ z ∈ p, z ∈ p ++ [(a, b)] := fun z hz => List.mem_append_left _ hz
  obtain ⟨rk', R'⟩ := rank_snoc E.rkd hx (t := c) fun w hw q => hn (by
    rw [hB]
    refine occ_sub c hw ?_
    rw [E.fn w]
    exact rch_occ E.rkd q hx)
  have hs : ∀ t : Trm, t.sub (bindE se x B).fn = (t.sub se.fn).sub (sing x B) := fun t => by
    rw [sub_sub]; exact sub_congr t fun w _ => bindE_fn hxe w
  have S' : Sol (tr ++ [(x, c)]) (bindE se x B).fn := by
    rw [sol_snoc hx]
    constructor
    · intro v t e
      rw [bindE_fn hxe, E.sol v t e, hs]
    · rw [hs, ← hB, sub_sing hn, bindE_fn hxe]
      have : se.fn x = .var x := by unfold Sb.fn; rw [hxe]; rfl
      rw [this]
      show sing x B x = B
      unfold sing; rw [if_pos rfl]
  refine ⟨rk', R', ful_uniq R' S' fun v e => ?_, ?_, fun v => ?_, fun f => ?_, fun v w e => ?_, fun v t e => ?_, fun v t e => ?_, fun z hz => ?_, fun f S => ?_, fun f S z hz => E.dp f ((sol_snoc hx).mp S).1 z (hp z hz)⟩
  · rw [get_put hx] at e
    split at e
    · cases e
    · rename_i ne
      rw [bindE_fn hxe]
      have : se.fn v = .var v := by unfold Sb.fn; rw [E.trn e]; rfl
      rw [this]
      show sing x B v = .var v
      unfold sing; rw [if_neg ne]
  · rw [bindE_keys, List.nodup_append]
    refine ⟨E.nd, by simp, fun u hu w hw => ?_⟩
    have hw : w = x := by simpa using hw
    rw [hw]
    exact fun q => get_nokey hxe (q ▸ hu)
  · rw [bindE_keys, List.mem_append, List.map_append, List.mem_append, E.key v]
    rfl
  · rw [E.uni f, sol_snoc hx]
    have key : ∀ S : Sol tr f, (a.sub f = b.sub f ↔ f x = c.sub f) := fun S => by rw [hE f S, hB, E.fx S c]
    constructor
    · rintro ⟨S, k⟩
      exact ⟨⟨S, (key S).mp (k (a, b) (by simp))⟩, fun z hz => k z (hp z hz)⟩
    · rintro ⟨⟨S, k1⟩, k2⟩
      refine ⟨S, fun z hz => ?_⟩
      rcases List.mem_append.mp hz with q | q
      · exact k2 z q
      · rw [List.mem_singleton.mp q]; exact (key S).mpr k1
  · rw [bindE_get hxe] at e
    split at e
    · rename_i q; cases e; rw [q]; exact ho w rfl
    · rw [Option.map_eq_some_iff] at e
      obtain ⟨t, e1, e2⟩ := e
      cases t with
      | app f ts => rw [sub_app] at e2; cases e2
      | var u =>
        have h1 := E.ori v u e1
        have e2 : sing x B u = .var w := e2
        unfold sing at e2
        split at e2
        · have := ho w e2; omega
        · cases e2; exact h1
  · rw [get_put hx] at e
    split at e
    · rename_i q; cases e; rw [q]; exact ⟨hxV, hcV⟩
    · exact E.so v t e
  · rw [get_put hx] at e
    split at e
    · cases e; exact hc
    · exact E.lt v t e
  · obtain ⟨g, g1, g2, g3, g4⟩ := E.gh z (hp z hz)
    exact ⟨g, g1, by rw [hs, hs, g2], by rw [hs, hs, g3], g4⟩
  · have := E.sz f ((sol_snoc hx).mp S).1
    rw [szs_snoc] at this
    omega
/-- the end -/
theorem ESt.done (E : ESt T l r se [] tr rk) (nb : ∀ v, (se.fn v).big = false) : Slv l r se := by
  have val : ∀ v t, se.get v = some t → t = ful tr rk v := fun v t e => by
    rw [← E.fn v]; unfold Sb.fn; rw [e]; rfl
  refine ⟨(E.uni _).mpr ⟨E.sol, fun z hz => by cases hz⟩, fun f h v => ?_, E.nd, E.len, fun v t e w hw => ?_, E.ori, fun v t e => ?_⟩
  · rw [E.fn v]; exact ful_mgu E.rkd ((E.uni f).mp h).1 v
  · rw [val v t e] at hw
    refine ⟨ful_occ E.rkd E.so v (E.len v (get_key e)) w hw, fun k => ?_⟩
    exact get_nokey (ful_nodom E.rkd v w hw) ((E.key w).mp k)
  · have := nb v
    unfold Sb.fn at this
    rw [e] at this
    exact this
theorem Slv.keys {vs ws : Sb} (h : Slv l r vs) (k : Slv l r ws) : ∀ v ∈ vs.map (·.1), v ∈ ws.map (·.1) := fun v hv => by
  obtain ⟨t, e⟩ := key_get hv
  have u := h.uniq k
  have hf : vs.fn v = t := by unfold Sb.fn; rw [e]; rfl
  by_cases q : v ∈ ws.map (·.1)
  · exact q
  · have hn : ws.fn v = .var v := by unfold Sb.fn; rw [get_none_of q]; rfl
    rw [u, hn] at hf
    have := (h.val v t e v (by rw [← hf]; exact occ_one v)).2
    exact absurd hv this
end
theorem Slv.symm {l r : Trm} {vs : Sb} (h : Slv l r vs) : Slv r l vs := ⟨h.eq.symm, fun f e => h.mgu f e.symm, h.nd, fun v hv => List.mem_append.mpr (List.mem_append.mp (h.key v hv)).symm, fun v t e w hw => ⟨List.mem_append.mpr (List.mem_append.mp (h.val v t e w hw).1).symm, (h.val v t e w hw).2⟩, h.ori, h.nb⟩
end DL

namespace DL
open PySem PySem.Spec PyProof.Rows L2
def mkT (cs : List Nat) : Str := ⟨cs.toArray⟩
def WC : List Nat := ("abcdefghijklmnopqrstuvwxyzABCDEFGHIJKLMNOPQRSTUVWXYZ0123456789" : Str).cps.toList
def SG : List Nat := ("(),=" : Str).cps.toList
def isVarW (w : Str) : Bool := match w.cps.toList with
  | [] => false
  | c :: ds => decide (c = 120) && (decide (1 ≤ ds.length) && decide (ds.length ≤ 2)) && Txt.isdigit (mkT ds) && match intText? (mkT ds) with
    | some n => decide (itx n = mkT ds) && decide (n ≤ 19)
    | none => false
def kindW (w : Str) : Str := if isName w = true then "name" else if isVarW w = true then "variable" else "bad"
def vword (v : Int) : Str := ("x" : Str) ++ itx v
structure Tok where
  k : Str
  w : Str
  i : Int
def Tok.d (x : Tok) : D := .tup [.str x.k, .str x.w, .int x.i]
section
variable (F : List Tok → Trm → List Tok → Prop) (G : List Tok → Int → Prop)
inductive PA : Nat → List Tok → List Trm → List Tok → Prop
  | last {m : Nat} {ts : List Tok} {t : Trm} {x : Tok} {r : List Tok} (h : F ts t (x :: r)) (hx : x.k = ")") : PA m ts [t] r
  | more {m : Nat} {ts : List Tok} {t : Trm} {x : Tok} {r rest : List Tok} {as : List Trm} (h : F ts t (x :: r)) (hx : x.k = ",") (hm : m + 1 < 3) (q : PA (m + 1) r as rest) : PA m ts (t :: as) rest
inductive PAE : Nat → List Tok → Int → Prop
  | arg {m : Nat} {ts : List Tok} {i : Int} (h : G ts i) : PAE m ts i
  | sep {m : Nat} {ts : List Tok} {t : Trm} {x : Tok} {r : List Tok} (h : F ts t (x :: r)) (h1 : x.k ≠ ")") (h2 : x.k ≠ "," ∨ m + 1 = 3) : PAE m ts x.i
  | more {m : Nat} {ts : List Tok} {t : Trm} {x : Tok} {r : List Tok} {i : Int} (h : F ts t (x :: r)) (hx : x.k = ",") (hm : m + 1 < 3) (q : PAE (m + 1) r i) : PAE m ts i
end
def PT : Nat → List Tok → Trm → List Tok → Prop
  | 0, _, _, _ => False
  | n + 1, ts, t, rest => (∃ x v, ts = x :: rest ∧ x.k = "variable" ∧ 0 ≤ v ∧ v < 20 ∧ x.w = vword v ∧ t = .var v) ∨ (∃ x y r, ts = x :: rest ∧ rest = y :: r ∧ x.k = "name" ∧ y.k ≠ "(" ∧ t = .app x.w []) ∨ ∃ x y r as, ts = x :: y :: r ∧ x.k = "name" ∧ y.k = "(" ∧ PA (PT n) 0 r as rest ∧ t = .app x.w as
def PE : Nat → List Tok → Int → Prop
  | 0, _, _ => False
  | n + 1, ts, i => (∃ x r, ts = x :: r ∧ x.k ≠ "variable" ∧ x.k ≠ "name" ∧ i = x.i) ∨ ∃ x y r, ts = x :: y :: r ∧ x.k = "name" ∧ y.k = "(" ∧ PAE (PT n) (PE n) 0 r i
def isSg (w : Str) : Prop := ∃ c ∈ SG, w = mkT [c]
theorem All2.len {α β : Type} {R : α → β → Prop} : ∀ {xs : List α} {ys : List β}, All2 R xs ys → xs.length = ys.length
  | _, _, .nil => rfl
  | _, _, .cons _ r => by rw [List.length_cons, List.length_cons, r.len]
def wordOk (w : Str) : Prop := w.cps.toList ≠ [] ∧ (∀ c ∈ w.cps.toList, c ∈ WC) ∧ w.length ≤ 1000 ∧ kindW w ≠ "bad"
def okW (w : Str) : Prop := isSg w ∨ (¬ isSg w ∧ wordOk w)
def AltO : List Str → Prop
  | [] => True
  | [w] => okW w
  | w :: v :: ws => okW w ∧ (isSg w ∨ isSg v) ∧ AltO (v :: ws)
theorem AltO.tail {w : Str} {ws : List Str} (h : AltO (w :: ws)) : AltO ws := by
  cases ws with
  | nil => trivial
  | cons v vs => exact h.2.2
theorem go_m0 {r : RDM} {o : AE} {δ : Sl} {W : Wd} {Q : DQ} (h : o δ W fun x W1 => (∃ z, x = .str z) ∧ r x [] W1 Q) : aM0 r o δ W Q := h
theorem go_isdigit {a : Str} {W : Wd} {Q : DQ} (h : Q (.bl (Txt.isdigit a)) W) : (∃ z, D.str a = .str z) ∧ dIsdigit (.str a) [] W Q := ⟨⟨a, rfl⟩, a, rfl, rfl, h⟩
end DL

namespace DL
open PySem PySem.Spec PyProof.Rows L2
def rz (t : Trm) : Trm := t.sub fun v => .var (v + 10)
theorem rz_sub (f : Int → Trm) (t : Trm) : (rz t).sub f = t.sub fun v => f (v + 10) := sub_ren (· + 10) f t
def lf (t : Trm) : Trm := if t.size = 1 then t else .var 99
/-- the values of a step -/
def svS (ks : List Int) (j : Int) (S N : Int → Trm) : Sb := ks.map fun k => (k, (S (k + j)).sub N)
theorem sub_isPos {t : Trm} {p : List Int} {f : Int → Trm} (h : t.isPos p = true) : (t.sub f).isPos p = true := by
  induction p generalizing t with
  | nil => rfl
  | cons i p ih =>
    obtain ⟨g, ts, x, rfl, h1, h2, h3⟩ := isPos_step h
    rw [sub_app, isPos_cons h1 (x := x.sub f) (by rw [List.getElem?_map, h2]; rfl)]
    exact ih h3
theorem vlenS (t : Trm) : t.vars.length ≤ t.size := by
  unfold Trm.vars
  have := nub_len (t.syms.filterMap Sy.int?) []
  have := List.length_filterMap_le Sy.int? t.syms
  rw [syms_len] at this
  simp at *
  omega
def ovN (l : Trm) (S : Int → Trm) : Sb := numb [] (l.sub S).vars
def ov1 (l : Trm) (S : Int → Trm) : Trm := (l.sub S).sub (ovN l S).fn
def ov2 (l r' : Trm) (p : List Int) (S : Int → Trm) : Trm := ((l.sub S).put p ((rz r').sub S)).sub (ovN l S).fn
def ov3 (l r : Trm) (S : Int → Trm) : Trm := (r.sub S).sub (ovN l S).fn
def stpD (o : Nat) (b : Bool) (p : List Int) (s : Sb) : D := .tup [.tup [.str "given", .int o], .bl b, posD p, .dk (dkS s)]
theorem go_neSI {a : Str} {i : Int} {W : Wd} {Q : DQ} (h : Q (.bl false) W) : dNe (.tup [.str a, .int i]) (.tup [.str a, .int i]) W Q := by
  refine ⟨?_, ?_⟩
  · simp [D.near, D.plain, D.plains, D.py, D.pys, PyData.depth, PyData.depthAll]
  · have : (D.tup [.str a, .int i]).eqv (.tup [.str a, .int i]) = true := by simp [D.eqv, D.py, D.pys, PyData.eqv, PyData.eqvAll]
    rw [this]; exact h
section
variable {X : Cx} {G0 : Hp} {pos : PySem.Pos}
def agUnl (n : Nat) (t : AGs) : AG := fun d δ W N => ∃ ds, lstRd W d = some ds ∧ ds.length = n ∧ t ds δ W N
theorem go_unl {n : Nat} {ds : List D} {gs : AGs} {δ : Sl} {W : Wd} {N : Sl → Wd → Prop} (h0 : ds.length = n) (h : gs ds δ W N) : agUnl n gs (.lst ds) δ W N := ⟨ds, rfl, h0, h⟩
end
end DL

namespace DL
open PySem PySem.Spec PyProof.Rows L2
open Classical in
structure OvI where
  o : Nat
  i : Nat
  p : List Int
  l : Trm
  r : Trm
  l' : Trm
  r' : Trm
  S : Int → Trm
def OvI.t (x : OvI) : D := .tup [(ov1 x.l x.S).d, (ov2 x.l x.r' x.p x.S).d, (ov3 x.l x.r x.S).d]
def OvI.e (x : OvI) : D := .tup [.int x.o, .int x.i, posD x.p, x.t]
def OvI.d (x : OvI) : D := .tup [.int x.o, .int x.i, posD x.p, (ov1 x.l x.S).d, (ov2 x.l x.r' x.p x.S).d, (ov3 x.l x.r x.S).d, .lst [stpD x.i false x.p (svS x.l'.vars 10 x.S (ovN x.l x.S).fn), stpD x.o true [] (svS x.l.vars 0 x.S (ovN x.l x.S).fn)]]
end DL

namespace DL
open PySem PySem.Spec PyProof.Rows L2
theorem sub3 (S N V : Int → Trm) (t : Trm) : ((t.sub S).sub N).sub V = t.sub fun v => ((S v).sub N).sub V := by rw [sub_sub S N t, sub_sub _ V t]
/-- an instance of an overlap -/
theorem ov_inst {l r l' r' : Trm} {p : List Int} {S : Int → Trm} (V : Int → Trm) (hp : l.isPos p = true) (hS : (l.at p).sub S = (rz l').sub S) :
    ((ov1 l S).sub V).isPos p = true ∧ ((ov1 l S).sub V).at p = l'.sub (fun v => ((S (v + 10)).sub (ovN l S).fn).sub V) ∧ ((ov1 l S).sub V).put p (r'.sub fun v => ((S (v + 10)).sub (ovN l S).fn).sub V) = (ov2 l r' p S).sub V ∧ (ov1 l S).sub V = l.sub (fun v => ((S v).sub (ovN l S).fn).sub V) ∧ (ov3 l r S).sub V = r.sub (fun v => ((S v).sub (ovN l S).fn).sub V) := by
  have p1 : (l.sub S).isPos p = true := sub_isPos hp
  have p2 : ((l.sub S).sub (ovN l S).fn).isPos p = true := sub_isPos p1
  have p3 : (((l.sub S).sub (ovN l S).fn).sub V).isPos p = true := sub_isPos p2
  have e : ∀ t : Trm, t.sub (fun v => ((S (v + 10)).sub (ovN l S).fn).sub V) = (((rz t).sub S).sub (ovN l S).fn).sub V := fun t => by rw [rz_sub, sub3 (fun v => S (v + 10))]
  unfold ov1 ov2 ov3
  refine ⟨p3, ?_, ?_, sub3 .., sub3 ..⟩
  · rw [at_sub p2, at_sub p1, at_sub hp, hS, e]
  · rw [e, sub_put (pos_of p1), sub_put (pos_of p2)]
def OvI.q (x : OvI) : D := .tup [.int x.o, .int x.i, posD x.p, (ov1 x.l x.S).d]
end DL

namespace DL
open PySem PySem.Spec PyProof.Rows L2
theorem slt_trans {x y z : Str} (h : slt x y = true) (k : slt y z = true) : slt x z = true := by
  unfold slt at *
  rw [decide_eq_true_eq] at *
  exact List.lt_trans h k
theorem cmpS_trans {a b c : Sy} (h : cmpS a b = -1) (k : cmpS b c = -1) : cmpS a c = -1 := by
  cases a with
  | v n =>
    cases c with
    | f z => rfl
    | v l =>
      cases b with
      | f y => simp [cmpS] at k
      | v m =>
        simp only [cmpS] at *
        split at h
        · split at k
          · rw [if_pos (by omega)]
          · cases k
        · cases h
  | f x =>
    cases b with
    | v m => simp [cmpS] at h
    | f y =>
      cases c with
      | v l => simp [cmpS] at k
      | f z =>
        simp only [cmpS] at *
        split at h
        · rename_i h1
          split at k
          · rename_i k1
            rw [if_pos (slt_trans h1 k1)]
          · cases k
        · cases h
theorem cmpL_trans : ∀ {as bs cs : List Sy}, as.length = bs.length → bs.length = cs.length → cmpL as bs ≤ 0 → cmpL bs cs ≤ 0 → cmpL as cs ≤ 0
  | [], _, _, _, _, _, _ => by rw [cmpL]; exact Int.le_refl _; intros; simp_all
  | a :: as, [], _, h, _, _, _ => by cases h
  | a :: as, b :: bs, [], _, h, _, _ => by cases h
  | a :: as, b :: bs, c :: cs, h1, h2, h, k => by
    rw [cmpL] at h k ⊢
    have neg : ∀ {x y : Sy}, cmpS x y ≤ 0 → cmpS x y = -1 := fun {x y} h => by rcases cmpS_ne x y with e | e <;> omega
    by_cases e1 : a = b
    · rw [if_pos e1] at h
      subst e1
      by_cases e2 : a = c
      · rw [if_pos e2] at k ⊢
        exact cmpL_trans (by simpa using h1) (by simpa using h2) h k
      · rw [if_neg e2] at k ⊢
        exact k
    · rw [if_neg e1] at h
      by_cases e2 : b = c
      · subst e2
        rw [if_neg e1]; exact h
      · rw [if_neg e2] at k
        have t := cmpS_trans (neg h) (neg k)
        by_cases e3 : a = c
        · subst e3
          have := cmpS_anti e1
          have := neg h
          have := neg k
          omega
        · rw [if_neg e3, t]; decide
theorem cmpT_trans {a b c : Trm} (h : cmpT a b ≤ 0) (k : cmpT b c ≤ 0) : cmpT a c ≤ 0 := by
  unfold cmpT at *
  by_cases e1 : a.size = b.size
  · rw [if_pos e1] at h
    by_cases e2 : b.size = c.size
    · rw [if_pos e2] at k
      rw [if_pos (e1.trans e2)]
      exact cmpL_trans (by rw [syms_len, syms_len]; exact e1) (by rw [syms_len, syms_len]; exact e2) h k
    · rw [if_neg e2] at k
      rw [if_neg (by omega)]
      split at k
      · rw [if_pos (by omega)]; decide
      · omega
  · rw [if_neg e1] at h
    split at h
    · rename_i l1
      by_cases e2 : b.size = c.size
      · rw [if_neg (by omega), if_pos (by omega)]; decide
      · rw [if_neg e2] at k
        split at k
        · rw [if_neg (by omega), if_pos (by omega)]; decide
        · omega
    · omega
abbrev Srt (xs : List Trm) : Prop := xs.Pairwise fun a b => cmpT a b ≤ 0
/-- put behind all that are not greater -/
def insT (t : Trm) : List Trm → List Trm
  | [] => [t]
  | x :: xs => if cmpT x t ≤ 0 then x :: insT t xs else t :: x :: xs
theorem insT_perm (t : Trm) : ∀ xs : List Trm, (insT t xs).Perm (t :: xs)
  | [] => .refl _
  | x :: xs => by
    rw [insT]
    split
    · exact ((insT_perm t xs).cons x).trans (.swap ..)
    · exact .refl _
theorem insT_srt (t : Trm) : ∀ {xs : List Trm}, Srt xs → Srt (insT t xs)
  | [], _ => by simp [insT, Srt]
  | x :: xs, h => by
    obtain ⟨h1, h2⟩ := List.pairwise_cons.mp h
    rw [insT]
    split
    · rename_i hx
      refine List.pairwise_cons.mpr ⟨fun y hy => ?_, insT_srt t h2⟩
      rcases List.mem_cons.mp ((insT_perm t xs).mem_iff.mp hy) with rfl | hy
      · exact hx
      · exact h1 y hy
    · rename_i hx
      have hx : cmpT t x ≤ 0 := by have := cmpT_anti t x; omega
      refine List.pairwise_cons.mpr ⟨fun y hy => ?_, h⟩
      rcases List.mem_cons.mp hy with rfl | hy
      · exact hx
      · exact cmpT_trans hx (h1 y hy)
theorem srt_uniqT : ∀ {xs ys : List Trm}, (∀ a ∈ xs, ∀ b ∈ xs, cmpT a b = 0 → a = b) → Srt xs → Srt ys → xs.Perm ys → xs = ys
  | [], ys, _, _, _, p => by rw [List.nil_perm.mp p]
  | x :: xs, [], _, _, _, p => by have := p.length_eq; cases this
  | x :: xs, y :: ys, hz, hx, hy, p => by
    obtain ⟨x1, x2⟩ := List.pairwise_cons.mp hx
    obtain ⟨y1, y2⟩ := List.pairwise_cons.mp hy
    have my : y ∈ x :: xs := p.mem_iff.mpr List.mem_cons_self
    have mx : x ∈ y :: ys := p.mem_iff.mp List.mem_cons_self
    have a : cmpT x y ≤ 0 := by
      rcases List.mem_cons.mp my with e | h
      · rw [e]; have := cmpT_anti x x; omega
      · exact x1 y h
    have b : cmpT y x ≤ 0 := by
      rcases List.mem_cons.mp mx with e | h
      · rw [e]; have := cmpT_anti y y; omega
      · exact y1 x h
    have e : x = y := hz x List.mem_cons_self y my (by have := cmpT_anti x y; omega)
    subst e
    rw [srt_uniqT (fun c hc d hd => hz c (List.mem_cons_of_mem _ hc) d (List.mem_cons_of_mem _ hd)) x2 y2 (List.perm_cons x |>.mp p)]
/-- one after the other put in -/
def srtT (xs : List Trm) : List Trm := xs.foldl (fun acc t => insT t acc) []
theorem srtT_go : ∀ (xs acc : List Trm), Srt acc → Srt (xs.foldl (fun acc t => insT t acc) acc) ∧ (xs.foldl (fun acc t => insT t acc) acc).Perm (acc ++ xs)
  | [], acc, h => ⟨h, by simp⟩
  | x :: xs, acc, h => by
    obtain ⟨a, b⟩ := srtT_go xs (insT x acc) (insT_srt x h)
    refine ⟨a, b.trans ?_⟩
    have := (insT_perm x acc).append_right xs
    exact this.trans List.perm_middle.symm
theorem srtT_ok (xs : List Trm) : Srt (srtT xs) ∧ (srtT xs).Perm xs := by
  obtain ⟨a, b⟩ := srtT_go xs [] (by simp [Srt])
  rw [List.nil_append] at b
  exact ⟨a, b⟩
/-- a sum of them, to the right -/
def nstT (f : Str) : List Trm → Trm
  | [] => .var 0
  | [x] => x
  | x :: y :: r => .app f [x, nstT f (y :: r)]
mutual
/-- the combined form -/
def Trm.cm (ns : List Str) : Trm → Trm
  | .var v => .var v
  | .app f ts => if f ∈ ns then nstT f (srtT (Trm.fls ns ts f)) else .app f (Trm.cms ns ts)
def Trm.cms (ns : List Str) : List Trm → List Trm
  | [] => []
  | t :: ts => t.cm ns :: Trm.cms ns ts
def Trm.fl (ns : List Str) : Trm → Str → List Trm
  | .var v, _ => [.var v]
  | .app g ts, f => if g = f then Trm.fls ns ts f else [if g ∈ ns then nstT g (srtT (Trm.fls ns ts g)) else .app g (Trm.cms ns ts)]
def Trm.fls (ns : List Str) : List Trm → Str → List Trm
  | [], _ => []
  | t :: ts, f => t.fl ns f ++ Trm.fls ns ts f
end
theorem cms_map (ns : List Str) : ∀ ts : List Trm, Trm.cms ns ts = ts.map (Trm.cm ns)
  | [] => by rw [Trm.cms]; rfl
  | t :: ts => by rw [Trm.cms, cms_map ns ts]; rfl
theorem fl_ne {ns : List Str} {f : Str} {t : Trm} (h : ∀ ts, t ≠ .app f ts) : t.fl ns f = [t.cm ns] := by
  cases t with
  | var v => rw [Trm.fl, Trm.cm]
  | app g ts =>
    have : g ≠ f := fun e => h ts (by rw [e])
    rw [Trm.fl, Trm.cm, if_neg this]
theorem fl_eq {ns : List Str} {f : Str} {a b : Trm} : (Trm.app f [a, b]).fl ns f = a.fl ns f ++ b.fl ns f := by
  rw [Trm.fl, if_pos rfl, Trm.fls, Trm.fls, Trm.fls, List.append_nil]
theorem cm_in {ns : List Str} {f : Str} {ts : List Trm} (h : f ∈ ns) : (Trm.app f ts).cm ns = nstT f (srtT ((Trm.app f ts).fl ns f)) := by
  rw [Trm.cm, if_pos h, Trm.fl, if_pos rfl]
theorem cm_out {ns : List Str} {f : Str} {ts : List Trm} (h : f ∉ ns) : (Trm.app f ts).cm ns = .app f (ts.map (Trm.cm ns)) := by
  rw [Trm.cm, if_neg h, cms_map]
end DL

namespace DL
open PySem PySem.Spec PyProof.Rows L2
mutual
/-- a bound of the combined form's depth -/
def Trm.cw (ns : List Str) : Trm → Nat
  | .var _ => 1
  | .app f ts => if f ∈ ns then Trm.cws ns ts else 1 + Trm.cwm ns ts
def Trm.cws (ns : List Str) : List Trm → Nat
  | [] => 0
  | t :: ts => t.cw ns + Trm.cws ns ts
def Trm.cwm (ns : List Str) : List Trm → Nat
  | [] => 0
  | t :: ts => max (t.cw ns) (Trm.cwm ns ts)
/-- the parts that are not of this operation -/
def Trm.lv (f : Str) : Trm → List Trm
  | .var v => [.var v]
  | .app g ts => if g = f then Trm.lvs f ts else [.app g ts]
def Trm.lvs (f : Str) : List Trm → List Trm
  | [] => []
  | t :: ts => t.lv f ++ Trm.lvs f ts
end
inductive Two (ns : List Str) : Trm → Prop
  | var {v : Int} : Two ns (.var v)
  | app {f : Str} {ts : List Trm} (h0 : f ∈ ns → ts.length = 2) (h1 : ∀ t ∈ ts, Two ns t) : Two ns (.app f ts)
theorem Two.args {ns : List Str} {f : Str} {ts : List Trm} (h : Two ns (.app f ts)) : (f ∈ ns → ts.length = 2) ∧ ∀ t ∈ ts, Two ns t := by
  cases h with | app h0 h1 => exact ⟨h0, h1⟩
theorem depth_arg {f : Str} {ts : List Trm} {t : Trm} (h : t ∈ ts) : t.depth + 1 ≤ (Trm.app f ts).depth := by
  rw [Trm.depth]; have := Trm.depths_le h; omega
theorem Fit.args {ar : Str → Nat} {f : Str} {ts : List Trm} (h : Fit ar (.app f ts)) : ts.length = ar f ∧ ∀ t ∈ ts, Fit ar t := by
  cases h with | app h0 h1 => exact ⟨h0, h1⟩
theorem nst_fit {ar : Str → Nat} {f : Str} (hf : ar f = 2) : ∀ {xs : List Trm}, (∀ x ∈ xs, Fit ar x) → Fit ar (nstT f xs)
  | [], _ => .var
  | [x], h => by rw [nstT]; exact h x (by simp)
  | x :: y :: r, h => by
    rw [nstT]
    refine .app (by rw [hf]; rfl) fun t ht => ?_
    simp at ht
    rcases ht with rfl | rfl
    · exact h _ (by simp)
    · exact nst_fit hf fun z hz => h z (List.mem_cons_of_mem _ hz)
theorem cm_fit {ar : Str → Nat} {ns : List Str} (h2 : ∀ f ∈ ns, ar f = 2) {t : Trm} (h : Fit ar t) : Fit ar (t.cm ns) ∧ ∀ f ∈ ns, ∀ u ∈ t.fl ns f, Fit ar u := by
  induction h with
  | var =>
    refine ⟨by rw [Trm.cm]; exact .var, fun f _ u hu => ?_⟩
    rw [Trm.fl, List.mem_singleton] at hu
    rw [hu]; exact .var
  | @app g ts h0 h1 ih =>
    have one : Fit ar ((Trm.app g ts).cm ns) := by
      by_cases hg : g ∈ ns
      · rw [cm_in hg]
        refine nst_fit (h2 g hg) fun x hx => ?_
        have hx := (srtT_ok _).2.mem_iff.mp hx
        obtain ⟨a, b, rfl⟩ : ∃ a b, ts = [a, b] := match ts, (show ts.length = 2 by rw [h0, h2 g hg]) with | [a, b], _ => ⟨a, b, rfl⟩
        rw [fl_eq] at hx
        rcases List.mem_append.mp hx with hx | hx
        · exact (ih a (by simp)).2 g hg x hx
        · exact (ih b (by simp)).2 g hg x hx
      · rw [cm_out hg]
        refine .app (by rw [List.length_map, h0]) fun x hx => ?_
        obtain ⟨u, hu, rfl⟩ := List.mem_map.mp hx
        exact (ih u hu).1
    refine ⟨one, fun f hf u hu => ?_⟩
    by_cases e : g = f
    · subst e
      obtain ⟨a, b, rfl⟩ : ∃ a b, ts = [a, b] := match ts, (show ts.length = 2 by rw [h0, h2 g hf]) with | [a, b], _ => ⟨a, b, rfl⟩
      rw [fl_eq] at hu
      rcases List.mem_append.mp hu with hx | hx
      · exact (ih a (by simp)).2 g hf u hx
      · exact (ih b (by simp)).2 g hf u hx
    · rw [fl_ne (fun us h => e (by cases h; rfl)), List.mem_singleton] at hu
      rw [hu]; exact one
end DL

namespace DL
open PySem PySem.Spec PyProof.Rows L2
theorem srtT_perm {ar : Str → Nat} {xs ys : List Trm} (h : xs.Perm ys) (hx : ∀ x ∈ xs, Fit ar x) : srtT xs = srtT ys := by
  obtain ⟨a, b⟩ := srtT_ok xs
  obtain ⟨c, d⟩ := srtT_ok ys
  exact srt_uniqT (fun x hx' y hy => fun e => (cmpT_zero (hx x (b.mem_iff.mp hx')) (hx y (b.mem_iff.mp hy))).mp e) a c (b.trans (h.trans d.symm))
/-- alike up to exchanges and regroupings -/
structure CmE (ns : List Str) (t u : Trm) : Prop where
  cm : t.cm ns = u.cm ns
  fl : ∀ f ∈ ns, (t.fl ns f).Perm (u.fl ns f)
  cw : t.cw ns = u.cw ns
  sz : t.size = u.size
theorem CmE.refl (ns : List Str) (t : Trm) : CmE ns t t := ⟨rfl, fun _ _ => .refl _, rfl, rfl⟩
theorem CmE.trans {ns : List Str} {t u v : Trm} (h : CmE ns t u) (k : CmE ns u v) : CmE ns t v := ⟨h.cm.trans k.cm, fun f hf => (h.fl f hf).trans (k.fl f hf), h.cw.trans k.cw, h.sz.trans k.sz⟩
theorem CmE.symm {ns : List Str} {t u : Trm} (h : CmE ns t u) : CmE ns u t := ⟨h.cm.symm, fun f hf => (h.fl f hf).symm, h.cw.symm, h.sz.symm⟩
/-- two with the same operation of the list at the top: their flat arguments decide -/
theorem CmE.top {ar : Str → Nat} {ns : List Str} (h2 : ∀ f ∈ ns, ar f = 2) {g : Str} {ts us : List Trm} (hg : g ∈ ns) (ht : Fit ar (.app g ts)) (hp : ((Trm.app g ts).fl ns g).Perm ((Trm.app g us).fl ns g)) (hw : (Trm.app g ts).cw ns = (Trm.app g us).cw ns) (hz : (Trm.app g ts).size = (Trm.app g us).size) : CmE ns (.app g ts) (.app g us) := by
  have e : (Trm.app g ts).cm ns = (Trm.app g us).cm ns := by
    rw [cm_in hg, cm_in hg, srtT_perm hp ((cm_fit h2 ht).2 g hg)]
  refine ⟨e, fun f hf => ?_, hw, hz⟩
  by_cases h : g = f
  · subst h; exact hp
  · rw [fl_ne (fun us h' => h (by cases h'; rfl)), fl_ne (fun us h' => h (by cases h'; rfl)), e]
theorem CmE.args {ar : Str → Nat} {ns : List Str} (h2 : ∀ f ∈ ns, ar f = 2) {g : Str} {ts us : List Trm} (ht : Fit ar (.app g ts)) (h : All2 (CmE ns) ts us) : CmE ns (.app g ts) (.app g us) := by
  have hm : ts.map (Trm.cm ns) = us.map (Trm.cm ns) := by
    clear ht
    induction h with
    | nil => rfl
    | cons h _ ih => rw [List.map_cons, List.map_cons, h.cm, ih]
  have hfl : ∀ f ∈ ns, (Trm.fls ns ts f).Perm (Trm.fls ns us f) := fun f hf => by
    clear ht hm
    induction h with
    | nil => exact .refl _
    | cons h _ ih => rw [Trm.fls, Trm.fls]; exact (h.fl f hf).append ih
  have hs : Trm.cws ns ts = Trm.cws ns us ∧ Trm.cwm ns ts = Trm.cwm ns us ∧ Trm.sizes ts = Trm.sizes us := by
    clear ht hm hfl
    induction h with
    | nil => exact ⟨rfl, rfl, rfl⟩
    | cons h _ ih => rw [Trm.cws, Trm.cws, Trm.cwm, Trm.cwm, Trm.sizes, Trm.sizes, h.cw, h.sz, ih.1, ih.2.1, ih.2.2]; exact ⟨rfl, rfl, rfl⟩
  have hw : (Trm.app g ts).cw ns = (Trm.app g us).cw ns := by rw [Trm.cw, Trm.cw, hs.1, hs.2.1]
  have hz : (Trm.app g ts).size = (Trm.app g us).size := by rw [Trm.size, Trm.size, hs.2.2]
  by_cases hg : g ∈ ns
  · refine CmE.top h2 hg ht ?_ hw hz
    rw [Trm.fl, Trm.fl, if_pos rfl, if_pos rfl]
    exact hfl g hg
  · have e : (Trm.app g ts).cm ns = (Trm.app g us).cm ns := by rw [cm_out hg, cm_out hg, hm]
    refine ⟨e, fun f hf => ?_, hw, hz⟩
    have ne : g ≠ f := fun e => hg (e ▸ hf)
    rw [fl_ne (fun us h' => ne (by cases h'; rfl)), fl_ne (fun us h' => ne (by cases h'; rfl)), e]
theorem All2.set {α : Type} {R : α → α → Prop} (hr : ∀ x, R x x) : ∀ {xs : List α} {i : Nat} {x y : α}, xs[i]? = some x → R x y → All2 R xs (xs.set i y)
  | [], i, x, y, h, _ => by cases h
  | a :: xs, 0, x, y, h, k => by
    cases h
    exact .cons k (go xs)
  | a :: xs, i + 1, x, y, h, k => by
    rw [List.set_cons_succ]
    exact .cons (hr a) (All2.set hr (by simpa using h) k)
where go : ∀ xs, All2 R xs xs
  | [] => .nil
  | x :: xs => .cons (hr x) (go xs)
theorem CmE.put {ar : Str → Nat} {ns : List Str} (h2 : ∀ f ∈ ns, ar f = 2) {t : Trm} {p : List Int} {u : Trm} (hp : Pos t p) (ht : Fit ar t) (h : CmE ns (t.at p) u) : CmE ns t (t.put p u) := by
  induction hp with
  | nil => rw [Trm.put]; exact h
  | @cons f ts i t p h0 h1 hp ih =>
    rw [put_cons h1]
    have hm := List.mem_of_getElem? h1
    have e : (Trm.app f ts).at (i :: p) = t.at p := by rw [Trm.at, h1]
    rw [e] at h
    exact CmE.args h2 ht (All2.set (CmE.refl ns) h1 (ih (ht.args.2 t hm) h))
theorem CmE.swap {ar : Str → Nat} {ns : List Str} (h2 : ∀ f ∈ ns, ar f = 2) {f : Str} {a b : Trm} (hf : f ∈ ns) (ht : Fit ar (.app f [a, b])) : CmE ns (.app f [a, b]) (.app f [b, a]) := by
  refine CmE.top h2 hf ht ?_ ?_ ?_
  · rw [fl_eq, fl_eq]; exact List.perm_append_comm
  · rw [Trm.cw, Trm.cw, if_pos hf, if_pos hf]; simp [Trm.cws]; omega
  · rw [Trm.size, Trm.size]; simp [Trm.sizes]; omega
end DL

namespace DL
open PySem PySem.Spec PyProof.Rows L2
abbrev PK := List Int × List Int
abbrev NE := PK × Addr × V
/-- the tuple at b is this key -/
def KeyH (H : Hp) (b : Addr) (k : PK) : Prop := ∃ c d, H b = some (.tup [.ref c, .ref d]) ∧ H c = some (.tup (k.1.map L2.V.int)) ∧ H d = some (.tup (k.2.map L2.V.int))
def valN (kvs : List NE) (k : PK) : Option V := (kvs.find? fun x => decide (x.1 = k)).map (·.2.2)
def putN (kvs : List NE) (k : PK) (b : Addr) (v : V) : List NE := if (valN kvs k).isSome = true then kvs.map (fun x => if x.1 = k then (x.1, x.2.1, v) else x) else kvs ++ [(k, b, v)]
def KeysH (H : Hp) (kvs : List NE) : Prop := ∀ x ∈ kvs, KeyH H x.2.1 x.1
end DL

namespace DL
open PySem PySem.Spec PyProof.Rows L2
def IsNs (K : PySem.W.Frag) (G : Hp) : List (PK × D) → List NE → Prop
  | [], kvs => kvs = []
  | (k, d) :: ds, kvs => ∃ b v r, kvs = (k, b, v) :: r ∧ KeyH G b k ∧ IsD K G d v ∧ IsNs K G ds r
section
variable {K : PySem.W.Frag} {G G' H : Hp} {W : Wd}
theorem KeyH.upL (s : SameL G G') {b : Addr} {k : PK} (h : KeyH G b k) : KeyH G' b k := by
  obtain ⟨c, d, e0, e1, e2⟩ := h
  exact ⟨c, d, s.at e0 rfl rfl, s.at e1 rfl rfl, s.at e2 rfl rfl⟩
theorem KeyH.down (R : Rel K G H W) {b : Addr} {k : PK} (h : KeyH G b k) : KeyH H b k := by
  obtain ⟨c, d, e0, e1, e2⟩ := h
  exact ⟨c, d, R.tup e0, R.tup e1, R.tup e2⟩
theorem IsNs.upL (s : SameL G G') : ∀ {ds : List (PK × D)} {vs : List NE}, IsNs K G ds vs → IsNs K G' ds vs
  | [], _, h => h
  | (k, d) :: ds, _, h => by
    obtain ⟨b, v, r, e, h1, h2, h3⟩ := h
    exact ⟨b, v, r, e, h1.upL s, IsD.upL s d v h2, h3.upL s⟩
theorem IsNs.keys (R : Rel K G H W) : ∀ {ds : List (PK × D)} {vs : List NE}, IsNs K G ds vs → KeysH H vs
  | [], _, h => by cases h; intro x hx; cases hx
  | (k, d) :: ds, _, h => by
    obtain ⟨b, v, r, rfl, h1, h2, h3⟩ := h
    intro x hx
    rcases List.mem_cons.mp hx with rfl | hx
    · exact h1.down R
    · exact h3.keys R x hx
theorem IsNs.length : ∀ {ds : List (PK × D)} {vs : List NE}, IsNs K G ds vs → ds.length = vs.length
  | [], _, h => by cases h; rfl
  | (k, d) :: ds, _, h => by
    obtain ⟨b, v, r, rfl, h1, h2, h3⟩ := h
    rw [List.length_cons, List.length_cons, h3.length]
end
def lookN (kds : List (PK × D)) (k : PK) : Option D := (kds.find? fun x => decide (x.1 = k)).map (·.2)
def putND (kds : List (PK × D)) (k : PK) (d : D) : List (PK × D) := if (lookN kds k).isSome = true then kds.map (fun x => if x.1 = k then (x.1, d) else x) else kds ++ [(k, d)]
theorem lookN_cons {k j : PK} {d : D} {r : List (PK × D)} : lookN ((k, d) :: r) j = if k = j then some d else lookN r j := by
  unfold lookN
  rw [List.find?_cons]
  by_cases e : k = j
  · simp [e]
  · simp [e]
theorem valN_cons {k j : PK} {b : Addr} {v : V} {r : List NE} : valN ((k, b, v) :: r) j = if k = j then some v else valN r j := by
  unfold valN
  rw [List.find?_cons]
  by_cases e : k = j
  · simp [e]
  · simp [e]
section
variable {K : PySem.W.Frag} {G G' H : Hp} {W : Wd}
theorem IsNs.look (k : PK) : ∀ {ds : List (PK × D)} {vs : List NE}, IsNs K G ds vs → (∃ d v, lookN ds k = some d ∧ valN vs k = some v ∧ IsD K G d v) ∨ (lookN ds k = none ∧ valN vs k = none)
  | [], _, h => by cases h; exact .inr ⟨rfl, rfl⟩
  | (j, d) :: ds, _, h => by
    obtain ⟨b, v, r, rfl, h1, h2, h3⟩ := h
    rw [lookN_cons, valN_cons]
    by_cases e : j = k
    · rw [if_pos e, if_pos e]; exact .inl ⟨d, v, rfl, rfl, h2⟩
    · rw [if_neg e, if_neg e]; exact h3.look k
theorem IsNs.some_eq (k : PK) {ds : List (PK × D)} {vs : List NE} (h : IsNs K G ds vs) : (lookN ds k).isSome = (valN vs k).isSome := by
  rcases h.look k with ⟨d, v, e1, e2, _⟩ | ⟨e1, e2⟩ <;> rw [e1, e2] <;> rfl
theorem IsNs.snoc {k : PK} {d : D} {v : V} {b : Addr} (hb : KeyH G b k) (hd : IsD K G d v) : ∀ {ds : List (PK × D)} {vs : List NE}, IsNs K G ds vs → IsNs K G (ds ++ [(k, d)]) (vs ++ [(k, b, v)])
  | [], _, h => by cases h; exact ⟨b, v, [], rfl, hb, hd, rfl⟩
  | (j, e) :: ds, _, h => by
    obtain ⟨c, u, r, rfl, h1, h2, h3⟩ := h
    exact ⟨c, u, _, rfl, h1, h2, h3.snoc hb hd⟩
theorem IsNs.repl {k : PK} {d : D} {v : V} (hd : IsD K G d v) : ∀ {ds : List (PK × D)} {vs : List NE}, IsNs K G ds vs → IsNs K G (ds.map fun x => if x.1 = k then (x.1, d) else x) (vs.map fun x => if x.1 = k then (x.1, x.2.1, v) else x)
  | [], _, h => by cases h; rfl
  | (j, e) :: ds, _, h => by
    obtain ⟨c, u, r, rfl, h1, h2, h3⟩ := h
    rw [List.map_cons, List.map_cons]
    by_cases ej : j = k
    · rw [if_pos ej, if_pos ej]; exact ⟨c, v, _, rfl, h1, hd, h3.repl hd⟩
    · rw [if_neg ej, if_neg ej]; exact ⟨c, u, _, rfl, h1, h2, h3.repl hd⟩
theorem IsNs.put {k : PK} {d : D} {v : V} {b : Addr} (hb : KeyH G b k) (hd : IsD K G d v) {ds : List (PK × D)} {vs : List NE} (h : IsNs K G ds vs) : IsNs K G (putND ds k d) (putN vs k b v) := by
  unfold putND putN
  rw [h.some_eq k]
  split
  · exact h.repl hd
  · exact h.snoc hb hd
end
end DL

namespace DL
open PySem PySem.Spec PyProof.Rows L2
inductive Rsn where
  | vr | ar (k : Nat) | ai (k : Nat) (i : Rsn) | nm (rs : List Rsn) | lx (k : Nat) (i : Rsn) (rs : List Rsn)
mutual
def Rsn.d : Rsn → D
  | .vr => .tup [.str "variable"]
  | .ar k => .tup [.str "argument", .int k, .non]
  | .ai k i => .tup [.str "argument", .int k, i.d]
  | .nm rs => .tup [.str "name", .tup (Rsn.ds rs)]
  | .lx k i rs => .tup [.str "lexical", .int k, i.d, .tup (Rsn.ds rs)]
def Rsn.ds : List Rsn → List D
  | [] => []
  | r :: rs => r.d :: Rsn.ds rs
end
theorem Rsn.ds_map : ∀ rs : List Rsn, Rsn.ds rs = rs.map Rsn.d
  | [] => rfl
  | r :: rs => by rw [Rsn.ds, Rsn.ds_map rs, List.map_cons]
def rsnD : Option Rsn → D
  | none => .non
  | some r => r.d
section
variable (f : Trm → Trm → Option Rsn)
def argF (r : Trm) : Nat → List Trm → Option Rsn
  | _, [] => none
  | k, t :: ts => if t = r then some (.ar k) else match f t r with
    | some i => some (.ai k i)
    | none => argF r (k + 1) ts
def latF (l : Trm) : List Trm → Option (List Rsn)
  | [] => some []
  | u :: us => match f l u with
    | none => none
    | some i => (latF l us).map (i :: ·)
/-- the first place where they differ -/
def fdif : List Trm → List Trm → Option Nat
  | t :: ts, u :: us => if t = u then (fdif ts us).map (· + 1) else some 0
  | _, _ => none
def lexF (l : Trm) (ts us : List Trm) : Option Rsn := match fdif ts us with
  | none => none
  | some k => match f (ts.getD k (.var 0)) (us.getD k (.var 0)) with
    | none => none
    | some i => (latF f l (us.drop (k + 1))).map (.lx (k + 1) i)
def stepF (rk : Str → Int) (l r : Trm) : Option Rsn := match l, r with
  | .var _, _ => none
  | .app g ts, .var v => if v ∈ (Trm.app g ts).vars then some .vr else none
  | .app g ts, .app h us => match argF f (.app h us) 1 ts with
    | some x => some x
    | none => if rk g < rk h then none else if rk g = rk h then lexF f (.app g ts) ts us else (latF f (.app g ts) us).map .nm
end
def rsnF (rk : Str → Int) : Nat → Trm → Trm → Option Rsn
  | 0 => fun _ _ => none
  | n + 1 => stepF (rsnF rk n) rk
def rsn (rk : Str → Int) (l r : Trm) : Option Rsn := rsnF rk (l.depth + r.depth) l r
theorem nd_le {α : Type} [DecidableEq α] : ∀ {xs ys : List α}, xs.Nodup → (∀ x ∈ xs, x ∈ ys) → xs.length ≤ ys.length
  | [], _, _, _ => Nat.zero_le _
  | x :: xs, ys, h, k => by
    obtain ⟨h1, h2⟩ := List.nodup_cons.mp h
    have hx := k x List.mem_cons_self
    have hl := List.length_erase_of_mem hx
    have := nd_le (xs := xs) (ys := ys.erase x) h2 fun z hz => (List.mem_erase_of_ne (a := z) (b := x) (fun e => h1 (by rw [← e]; exact hz))).mpr (k z (List.mem_cons_of_mem _ hz))
    have := List.length_pos_of_mem hx
    rw [List.length_cons]; omega
/-- what is known so far of these two terms and their parts -/
def KnOk (rk : Str → Int) (l r : Trm) (kds : List (PK × D)) : Prop := (kds.map (·.1)).Nodup ∧ ∀ x ∈ kds, l.isPos x.1.1 = true ∧ r.isPos x.1.2 = true ∧ x.2 = rsnD (rsn rk (l.at x.1.1) (r.at x.1.2))
theorem KnOk.nil (rk : Str → Int) (l r : Trm) : KnOk rk l r [] := ⟨List.nodup_nil, fun x h => by cases h⟩
theorem KnOk.get {rk : Str → Int} {l r : Trm} {kds : List (PK × D)} (h : KnOk rk l r kds) {p q : List Int} {d : D} (e : lookN kds (p, q) = some d) : d = rsnD (rsn rk (l.at p) (r.at q)) := by
  unfold lookN at e
  obtain ⟨x, hx, rfl⟩ := Option.map_eq_some_iff.mp e
  have hm := List.mem_of_find?_eq_some hx
  have hk := List.find?_some hx
  simp only [decide_eq_true_eq] at hk
  obtain ⟨_, _, e3⟩ := h.2 x hm
  rw [e3, hk]
theorem KnOk.put {rk : Str → Int} {l r : Trm} {kds : List (PK × D)} (h : KnOk rk l r kds) {p q : List Int} (hp : l.isPos p = true) (hq : r.isPos q = true) : KnOk rk l r (putND kds (p, q) (rsnD (rsn rk (l.at p) (r.at q)))) := by
  obtain ⟨h1, h2⟩ := h
  unfold putND
  split
  · refine ⟨?_, fun x hx => ?_⟩
    · rw [List.map_map]
      have : (kds.map ((fun x => x.1) ∘ fun x => if x.1 = (p, q) then (x.1, rsnD (rsn rk (l.at p) (r.at q))) else x)) = kds.map (·.1) := List.map_congr_left fun x _ => by
        show (if x.1 = (p, q) then (x.1, rsnD (rsn rk (l.at p) (r.at q))) else x).1 = x.1
        split <;> rfl
      rw [this]; exact h1
    · obtain ⟨y, hy, rfl⟩ := List.mem_map.mp hx
      by_cases e : y.1 = (p, q)
      · rw [if_pos e]
        refine ⟨by rw [e]; exact hp, by rw [e]; exact hq, by rw [e]⟩
      · rw [if_neg e]; exact h2 y hy
  · rename_i hn
    have hn : (p, q) ∉ kds.map (·.1) := fun hm => by
      apply hn
      obtain ⟨x, hx, e⟩ := List.mem_map.mp hm
      unfold lookN
      rw [Option.isSome_map, List.find?_isSome]
      exact ⟨x, hx, by simpa using e⟩
    refine ⟨?_, fun x hx => ?_⟩
    · rw [List.map_append]
      refine List.nodup_append.mpr ⟨h1, by simp, fun x hx y hy e => ?_⟩
      simp at hy
      rw [e, hy] at hx
      exact hn hx
    · rcases List.mem_append.mp hx with hx | hx
      · exact h2 x hx
      · rw [List.mem_singleton] at hx
        subst hx
        exact ⟨hp, hq, rfl⟩
theorem mem_prod {xs ys : List (List Int)} {x : PK} (h1 : x.1 ∈ xs) (h2 : x.2 ∈ ys) : x ∈ xs.flatMap fun a => ys.map fun b => (a, b) :=
  List.mem_flatMap.mpr ⟨x.1, h1, List.mem_map.mpr ⟨x.2, h2, rfl⟩⟩
theorem prod_length (xs ys : List (List Int)) : (xs.flatMap fun a => ys.map fun b => (a, b)).length = xs.length * ys.length := by
  induction xs with
  | nil => simp
  | cons x xs ih => rw [List.flatMap_cons, List.length_append, List.length_map, ih, List.length_cons, Nat.add_mul, Nat.one_mul, Nat.add_comm]
theorem KnOk.length {rk : Str → Int} {l r : Trm} {kds : List (PK × D)} (h : KnOk rk l r kds) : kds.length ≤ l.size * r.size := by
  have := nd_le h.1 (ys := l.ipos.flatMap fun a => r.ipos.map fun b => (a, b)) fun x hx => by
    obtain ⟨y, hy, rfl⟩ := List.mem_map.mp hx
    obtain ⟨a, b, _⟩ := h.2 y hy
    exact mem_prod (mem_ipos l _ a) (mem_ipos r _ b)
  rw [List.length_map, prod_length, ipos_len, ipos_len] at this
  exact this
end DL

namespace DL
open PySem PySem.Spec PyProof.Rows L2
def rkS (S : SgS) (f : Str) : Int := ((S.names.findIdx fun x => decide (x = f) : Nat) : Int)
theorem rkS_at {S : SgS} {f : Str} (h : f ∈ S.names) : ∃ j : Nat, rkS S f = (j : Int) ∧ S.names[j]? = some f ∧ ∀ m z, m < j → S.names[m]? = some z → z ≠ f := by
  have hl : (S.names.findIdx fun x => decide (x = f)) < S.names.length := List.findIdx_lt_length_of_exists ⟨f, h, by simp⟩
  refine ⟨_, rfl, ?_, fun m z hm hz => ?_⟩
  · rw [List.getElem?_eq_getElem hl]
    have := List.findIdx_getElem (w := hl)
    simp only [decide_eq_true_eq] at this
    rw [this]
  · have hml : m < S.names.length := by omega
    rw [List.getElem?_eq_getElem hml] at hz
    cases hz
    have := List.not_of_lt_findIdx hm
    simpa using this
/-- names that are texts of the language -/
def SgT (S : SgS) : Prop := ∀ x ∈ S.names, (PyData.str x).canLay0 = true
/-- the path order's object -/
def PoAt (W : Wd) (x : D) (S : SgS) : Prop := objOf W x = some (("PathOrder" : Str), [(("_signature" : Str), sgD S)])
theorem PoAt.grow {W W' : Wd} {x : D} {S : SgS} (h : PoAt W x S) (g : Grow W W') : PoAt W' x S := by
  unfold PoAt at *
  cases x with
  | ptr l =>
    simp only [objOf] at h ⊢
    cases e : W l with
    | none => rw [e] at h; cases h
    | some m => rw [e] at h; rw [g _ _ e]; exact h
  | fobj n fs => exact h
  | _ => cases h
/-- operations in any order -/
def OpsW (ops : Sig) : Prop := (ops.map Prod.fst).Nodup ∧ (∀ x ∈ ops, Nm x.1 ∧ x.2 ≤ 3) ∧ ops.length ≤ 6
theorem Ops.w {ops : Sig} (h : Ops ops) : OpsW ops := ⟨h.2.2.1, fun x hx => ⟨h.2.2.2 x hx, h.le3 hx⟩, h.len.2⟩
end DL

namespace DL
open PySem PySem.Spec PyProof.Rows L2
section
variable {rk : Str → Int}
theorem occ_iff {f : Str} {ts : List Trm} {v : Int} : v ∈ occ (.app f ts) ↔ ∃ t ∈ ts, v ∈ occ t := by
  rw [occ_app]
  induction ts with
  | nil => simp [Trm.symss]
  | cons u us ih =>
    rw [Trm.symss, List.filterMap_append, List.mem_append, ih]
    constructor
    · rintro (h | ⟨t, ht, h⟩)
      · exact ⟨u, List.mem_cons_self, h⟩
      · exact ⟨t, List.mem_cons_of_mem _ ht, h⟩
    · rintro ⟨t, ht, h⟩
      rcases List.mem_cons.mp ht with rfl | ht
      · exact .inl h
      · exact .inr ⟨t, ht, h⟩
theorem sz_arg {f : Str} {ss : List Trm} {s : Trm} (h : s ∈ ss) : s.size < (Trm.app f ss).size := by
  have := size_mem h; rw [Trm.size]; omega
end
end DL

namespace DL
open PySem PySem.Spec PyProof.Rows L2 ItX
def spLn (K : PySem.W.Frag) (C : Addr) (f : Str) (s : Shared) : Sp := fun vs H Q _ => ∃ a dx fs l zs, vs = [.ref a] ∧ H a = some (.ins C dx fs) ∧ fs.lookup f = some (.ref l) ∧ SqL K H l zs ∧ Q (.int zs.length) H
/-- o's own __len__ gives len(o.f) -/
structure OwnLn (P : Program) (w : World) (K : PySem.W.Frag) (mg : Str → Option Value) (base : Heap) (k : Nat) (c f : Str) : Prop where
  ex : ∃ fa, Meth K (He.ga K c) "__len__" fa ∧ ∀ {A : Around} {outer : List Env} {s : Shared} {H : Hp} {a : Addr} {Q : VK}, GR k A → Env0 P w K mg base A outer s H → K.In s.heap → spLn K (He.ga K c) f s [.ref a] H Q E0 → codeAny (model P w) A (.call (.ref fa) ⟨[.ref a], []⟩) (CR CX0 outer P w H s Q E0) s
theorem OwnLn.mono {P : Program} {w : World} {K : PySem.W.Frag} {mg : Str → Option Value} {base : Heap} {j k : Nat} {c f : Str} (g : OwnLn P w K mg base j c f) (h : j ≤ k) : OwnLn P w K mg base k c f := by
  obtain ⟨fa, M, F⟩ := g.ex
  exact ⟨fa, M, fun r e X q => F (r.mono h) e X q⟩
/-- list(o) has the room it needs -/
structure OwnLs (P : Program) (w : World) (K : PySem.W.Frag) (mg : Str → Option Value) (base : Heap) (k : Nat) (c f : Str) : Prop where
  ex : ∃ j, j + 3 ≤ k ∧ OwnIt P w K mg base j c f ∧ OwnLn P w K mg base j c f
theorem OwnLs.mono {P : Program} {w : World} {K : PySem.W.Frag} {mg : Str → Option Value} {base : Heap} {j k : Nat} {c f : Str} (g : OwnLs P w K mg base j c f) (h : j ≤ k) : OwnLs P w K mg base k c f := by
  obtain ⟨i, hi, a, b⟩ := g.ex
  exact ⟨i, Nat.le_trans hi h, a, b⟩
end DL

namespace DL
open PySem PySem.Spec PyProof.Rows L2
def dcut (kds : List (Key × D)) (k : Key) : List (Key × D) := kds.filter fun kd => decide (kd.1 ≠ k)
theorem isKs_cut {K : PySem.W.Frag} {G : Hp} (k : Key) : ∀ {kds : List (Key × D)} {kvs : List (Key × V)}, IsKs K G kds kvs → IsKs K G (dcut kds k) (dropK kvs k)
  | [], _, h => by cases h; exact rfl
  | (j, d) :: ds, _, h => by
    obtain ⟨v, r, rfl, h1, h2⟩ := h
    unfold dcut dropK
    rw [List.filter_cons, List.filter_cons]
    by_cases e : j = k
    · rw [if_neg (by simpa using e), if_neg (by simpa using e)]
      exact isKs_cut k h2
    · rw [if_pos (by simpa using e), if_pos (by simpa using e)]
      exact ⟨v, _, rfl, h1, isKs_cut k h2⟩
abbrev Ws := List (Str × Int)
def wsD (ws : Ws) : List (Key × D) := ws.map fun x => (Sum.inr x.1, .int x.2)
def wNames (ws : Ws) : List Str := ws.map Prod.fst
/-- the weight of a name -/
def wOf (ws : Ws) (n : Str) : Option Int := (ws.find? fun x => decide (x.1 = n)).map Prod.snd
/-- a weight order: of the signature S, the weights ws and the weight v of variables -/
def woFs (s d : D) (v : Int) : List (Str × D) := [("_signature", s), ("_weights", d), ("_variable_weight", .int v)]
def WoAt (W : Wd) (x : D) (S : SgS) (ws : Ws) (v : Int) : Prop := ∃ d, objOf W x = some (("WeightOrder" : Str), woFs (sgD S) d v) ∧ dkOf W d = some (wsD ws)
/-- the weight of symbols, those of no name left out -/
def wSum (ws : Ws) (v : Int) : List Sy → Int
  | [] => 0
  | .v _ :: r => v + wSum ws v r
  | .f n :: r => (wOf ws n).getD v + wSum ws v r
/-- an operation's weight is allowed -/
def cwOk (S : SgS) (x : Str × Int) (v : Int) (r : Int) : Bool := decide (0 ≤ x.2 ∧ x.2 ≤ 1000) && !(decide (r = 0) && decide (x.2 < v)) && !(decide (r = 1) && decide (x.2 = 0) && !decide ((rkS S x.1 : Int) = (S.length : Int) - 1))
def woOk (S : SgS) (ws : Ws) (v : Int) : Prop := (wNames ws).Perm S.names ∧ (1 ≤ v ∧ v ≤ 1000) ∧ ∀ n ∈ S.names, ∀ x r f, wOf ws n = some x → S.find n = some (r, f) → cwOk S (n, x) v r = true
def WkOk (ops : Sig) (ws : Ws) (v : Int) : Prop := wNames ws = ops.map Prod.fst ∧ 1 ≤ v ∧ v ≤ 4 ∧ ∀ k n r, ops[k]? = some (n, r) → ∃ x, wOf ws n = some x ∧ 0 ≤ x ∧ x ≤ 1000 ∧ (r = 0 → v ≤ x) ∧ (r = 1 → k + 1 < ops.length → 1 ≤ x)
theorem WkOk.ok {ops : Sig} {ws : Ws} {v : Int} (hO : OpsW ops) (h : WkOk ops ws v) : woOk (sg0 ops) ws v := by
  obtain ⟨h1, h2, h3, h4⟩ := h
  refine ⟨by rw [h1, sg0_names], ⟨h2, by omega⟩, fun n hn x r f ex hf => ?_⟩
  rw [sg0_names] at hn
  obtain ⟨⟨n', m⟩, hm, rfl⟩ := List.mem_map.mp hn
  obtain ⟨k, hk, ek⟩ := List.getElem_of_mem hm
  have ek' : ops[k]? = some (n', m) := by rw [List.getElem?_eq_getElem hk, ek]
  obtain ⟨x', e1, a1, a2, a3, a4⟩ := h4 k n' m ek'
  have e1 : x' = x := by have := e1.symm.trans ex; cases this; rfl
  subst e1
  have e2 := hf.symm.trans (sg0_find hO.1 hm)
  injection e2 with e2
  injection e2 with e2 _
  subst e2
  unfold cwOk
  have b1 : ¬ ((m : Int) = 0 ∧ x' < v) := fun ⟨z1, z2⟩ => by have := a3 (by omega); omega
  have b2 : ¬ ((m : Int) = 1 ∧ x' = 0 ∧ ¬ rkS (sg0 ops) n' = ((sg0 ops).length : Int) - 1) := fun ⟨z1, z2, z3⟩ => by
    have hk1 : ¬ k + 1 < ops.length := fun z => by have := a4 (by omega) z; omega
    have nd : (sg0 ops).names.Nodup := by rw [sg0_names]; exact hO.1
    obtain ⟨i, ei, hi, _⟩ := rkS_at (S := sg0 ops) (f := n') (by rw [sg0_names]; exact hn)
    rw [sg0_names, List.getElem?_map, Option.map_eq_some_iff] at hi
    obtain ⟨y, hy, ey⟩ := hi
    obtain ⟨hi1, hy⟩ := List.getElem?_eq_some_iff.mp hy
    have : i = k := (List.getElem_inj (h₀ := by rw [List.length_map]; exact hi1) (h₁ := by rw [List.length_map]; exact hk) hO.1).mp (by rw [List.getElem_map, List.getElem_map, hy, ek, ey])
    refine z3 ?_
    rw [ei]
    have : (sg0 ops).length = ops.length := by rw [← names_len, sg0_names, List.length_map]
    omega
  have c0 : decide (0 ≤ (n', x').2 ∧ (n', x').2 ≤ 1000) = true := decide_eq_true ⟨a1, a2⟩
  have c1 : (decide ((m : Int) = 0) && decide ((n', x').2 < v)) = false := Bool.eq_false_iff.mpr fun h => by
    simp only [Bool.and_eq_true, decide_eq_true_eq] at h
    exact b1 h
  have c2 : (decide ((m : Int) = 1) && decide ((n', x').2 = 0) && !decide ((rkS (sg0 ops) (n', x').1 : Int) = ((sg0 ops).length : Int) - 1)) = false := Bool.eq_false_iff.mpr fun h => by
    simp only [Bool.and_eq_true, decide_eq_true_eq, Bool.not_eq_true', decide_eq_false_iff_not] at h
    exact b2 ⟨h.1.1, h.1.2, h.2⟩
  rw [c0, c1, c2]
  rfl
end DL

namespace DL
open PySem PySem.Spec PyProof.Rows L2
inductive Wrs where
  | wt | pw | nm | lx (k : Nat) (i : Wrs)
def Wrs.d : Wrs → D
  | .wt => .tup [.str "weight"]
  | .pw => .tup [.str "power"]
  | .nm => .tup [.str "name"]
  | .lx k i => .tup [.str "lexical", .int k, i.d]
/-- every variable of r stands in l at least as often -/
def covB (l r : List Sy) : Bool := r.all fun s => match s with
  | .v n => decide (r.count (.v n) ≤ l.count (.v n))
  | .f _ => true
/-- names of weight 0 with one argument taken off -/
def strip (ws : Ws) : Trm → Trm
  | .app f [t] => if wOf ws f = some 0 then strip ws t else .app f [t]
  | t => t
termination_by t => t.depth
decreasing_by exact Nat.lt_of_succ_le (depth_arg (f := f) (by simp))
section
variable (f : Trm → Trm → Option Wrs)
def wlexF (ts us : List Trm) : Option Wrs := match fdif ts us with
  | none => none
  | some k => (f (ts.getD k (.var 0)) (us.getD k (.var 0))).map (.lx (k + 1))
def wstepF (ws : Ws) (v : Int) (rk : Str → Int) (l r : Trm) : Option Wrs :=
  if covB l.syms r.syms = false then none else if wSum ws v r.syms < wSum ws v l.syms then some .wt else if wSum ws v l.syms < wSum ws v r.syms then none else match l, r with
  | .var _, _ => none
  | .app g ts, .var n => if strip ws (.app g ts) = .var n then some .pw else none
  | .app g ts, .app h us => if rk h < rk g then some .nm else if rk g < rk h then none else wlexF f ts us
end
def wrsF (ws : Ws) (v : Int) (rk : Str → Int) : Nat → Trm → Trm → Option Wrs
  | 0 => fun _ _ => none
  | n + 1 => wstepF (wrsF ws v rk n) ws v rk
def wrs (ws : Ws) (v : Int) (rk : Str → Int) (l r : Trm) : Option Wrs := wrsF ws v rk l.depth l r
/-- two terms over a signature whose names have weights -/
structure WoP (S : SgS) (ws : Ws) (l r : Trm) : Prop where
  tx : SgT S
  nm : ∀ n ∈ S.names, n ∈ wNames ws
  fit : ∃ ar : Str → Nat, Fit ar l ∧ Fit ar r
  ol : On S l
  or : On S r
  sl : l.size ≤ 1000
  sr : r.size ≤ 1000
  dl : l.depth ≤ 30
  dr : r.depth ≤ 30
theorem WoP.args {S : SgS} {ws : Ws} {f g : Str} {ts us : List Trm} {t u : Trm} (h : WoP S ws (.app f ts) (.app g us)) (ht : t ∈ ts) (hu : u ∈ us) : WoP S ws t u :=
  { h with fit := let ⟨ar, a, b⟩ := h.fit; ⟨ar, a.args.2 t ht, b.args.2 u hu⟩, ol := h.ol.args.2 t ht, or := h.or.args.2 u hu, sl := by have := sz_arg (f := f) ht; have := h.sl; omega, sr := by have := sz_arg (f := g) hu; have := h.sr; omega, dl := by have := depth_arg (f := f) ht; have := h.dl; omega, dr := by have := depth_arg (f := g) hu; have := h.dr; omega }
theorem objOf_grow {W W' : Wd} {x : D} {c : Str} {fs : List (Str × D)} (g : Grow W W') (h : objOf W x = some (c, fs)) : objOf W' x = some (c, fs) := by
  cases x with
  | ptr l =>
    simp only [objOf] at h ⊢
    cases e : W l with
    | none => rw [e] at h; cases h
    | some m => rw [e] at h; rw [g _ _ e]; exact h
  | fobj n fs => exact h
  | _ => simp [objOf] at h
theorem WoAt.grow {W W' : Wd} {x : D} {S : SgS} {ws : Ws} {v : Int} (h : WoAt W x S ws v) (g : Grow W W') : WoAt W' x S ws v := let ⟨d, a, b⟩ := h; ⟨d, objOf_grow g a, dkOf_grow g b⟩
def allEqv : List D → List D → Bool
  | [], [] => true
  | d :: ds, e :: es => d.eqv e && allEqv ds es
  | _, _ => false
theorem allEqv_all : ∀ {ds es : List D}, PyData.eqvAll (D.pys ds) (D.pys es) = allEqv ds es
  | [], [] => by rw [D.pys, PyData.eqvAll]; rfl
  | [], _ :: _ => by rw [D.pys, D.pys, PyData.eqvAll]; rfl
  | _ :: _, [] => by rw [D.pys, D.pys, PyData.eqvAll]; rfl
  | d :: ds, e :: es => by rw [D.pys, D.pys, PyData.eqvAll, allEqv_all, allEqv]; rfl
theorem eqw_ii {m : Int} {k : Int} : (D.int m).eqv (.int k) = decide (m = k) := by
  show PyData.eqv _ _ = _
  rw [D.py, D.py, PyData.eqv]
  rw [Bool.eq_iff_iff, beq_iff_eq, decide_eq_true_iff]
end DL

namespace DL
open PySem PySem.Spec PyProof.Rows L2
abbrev PTb := List (Str × List Int)
def ptD (T : PTb) : List (Key × D) := T.map fun x => (Sum.inr x.1, .lst (x.2.map .int))
def ptOf (T : PTb) (n : Str) : Option (List Int) := (T.find? fun x => decide (x.1 = n)).map Prod.snd
def ptNames (T : PTb) : List Str := T.map Prod.fst
/-- an operation's numbers are allowed -/
def numOk (r : Int) (ns : List Int) : Bool := match ns with
  | [] => false
  | c :: cs => decide ((cs.length : Int) = r) && decide (0 ≤ c ∧ c ≤ 1000) && cs.all fun f => decide (1 ≤ f ∧ f ≤ 1000)
/-- a polynomial order of the signature S and the table T -/
def poFs (d : D) : List (Str × D) := [("_table", d)]
def PlAt (W : Wd) (x : D) (T : PTb) : Prop := ∃ d, objOf W x = some (("PolynomialOrder" : Str), poFs d) ∧ dkOf W d = some (ptD T)
def addM (c : Int) (as bs : List Int) : List Int := List.zipWith (fun a b => a + c * b) as bs
mutual
def pol (T : PTb) : Trm → List Int
  | .var v => (List.replicate 21 (0 : Int)).set (v + 1).toNat 1
  | .app f ts => polS T (((ptOf T f).getD []).drop 1) ts ((List.replicate 21 (0 : Int)).set 0 (((ptOf T f).getD []).headD 0))
def polS (T : PTb) : List Int → List Trm → List Int → List Int
  | c :: cs, t :: ts, acc => polS T cs ts (addM c acc (pol T t))
  | _, _, acc => acc
end
theorem symss_of {s : Sy} {t : Trm} : ∀ {ts : List Trm}, t ∈ ts → s ∈ t.syms → s ∈ Trm.symss ts
  | u :: ts, h, hs => by
    rw [Trm.symss]
    rcases List.mem_cons.mp h with rfl | h
    · exact List.mem_append_left _ hs
    · exact List.mem_append_right _ (symss_of h hs)
/-- a term whose names have numbers that fit, its variables from 0 to 19 -/
structure PlP (T : PTb) (t : Trm) : Prop where
  nm : ∀ n, .f n ∈ t.syms → n ∈ ptNames T
  fit : ∃ ar : Str → Nat, Fit ar t ∧ ∀ n ns, ptOf T n = some ns → numOk (ar n) ns = true
  vr : ∀ v ∈ occ t, 0 ≤ v ∧ v < 20
  dp : t.depth ≤ 30
  sz : t.size ≤ 1000
theorem PlP.arg {T : PTb} {f : Str} {ts : List Trm} {t : Trm} (h : PlP T (.app f ts)) (ht : t ∈ ts) : PlP T t where
  nm := fun n hn => h.nm n (by rw [Trm.syms]; exact List.mem_cons_of_mem _ (symss_of ht hn))
  fit := let ⟨ar, a, b⟩ := h.fit; ⟨ar, a.args.2 t ht, b⟩
  vr := fun v hv => h.vr v (occ_of ht hv)
  dp := by have := depth_arg (f := f) ht; have := h.dp; omega
  sz := by have := sz_arg (f := f) ht; have := h.sz; omega
theorem PlAt.grow {W W' : Wd} {x : D} {T : PTb} (h : PlAt W x T) (g : Grow W W') : PlAt W' x T := let ⟨d, a, b⟩ := h; ⟨d, objOf_grow g a, dkOf_grow g b⟩
end DL

namespace DL
open PySem PySem.Spec PyProof.Rows L2
theorem rep_get {n i k : Nat} {x : Int} (hk : k < n) : ((List.replicate n (0 : Int)).set i x).getD k 0 = if k = i then x else 0 := by
  rw [List.getD_eq_getElem?_getD, List.getElem?_set]
  by_cases h : i = k
  · subst h; simp [hk]
  · rw [if_neg h, if_neg (Ne.symm h)]
    simp [List.getElem?_replicate, hk]
end DL

namespace DL
open PySem PySem.Spec PyProof.Rows L2
abbrev ZTb := List (Str × Addr × List Int)
def zD (Z : ZTb) : List (Key × D) := Z.map fun z => (Sum.inr z.1, .ptr z.2.1)
/-- the cell c holds the table Z, its lists are own cells, none of them st -/
structure OwnT (W : Wd) (st c : Addr) (Z : ZTb) : Prop where
  top : W c = some (.dk (zD Z))
  at' : ∀ z ∈ Z, W z.2.1 = some (.lst (z.2.2.map .int))
  ne : ∀ z ∈ Z, z.2.1 ≠ st
  nd : (Z.map fun z => z.2.1).Nodup
  nc : c ≠ st
theorem OwnT.nel {W : Wd} {st c : Addr} {Z : ZTb} (h : OwnT W st c Z) {z : Str × Addr × List Int} (hz : z ∈ Z) : z.2.1 ≠ c := fun e => by
  have := h.at' z hz
  rw [e, h.top] at this
  cases this
theorem OwnT.setSt {W : Wd} {st c : Addr} {Z : ZTb} (h : OwnT W st c Z) (o : MO) : OwnT (W.set st o) st c Z where
  top := by rw [Wd.set_ne h.nc]; exact h.top
  at' := fun z hz => by rw [Wd.set_ne (h.ne z hz)]; exact h.at' z hz
  ne := h.ne
  nd := h.nd
  nc := h.nc
/-- a fresh list l for n, whether n is there or not; W' is any world with these two cells anew -/
theorem OwnT.snoc {W : Wd} {st c l : Addr} {Z : ZTb} {n : Str} {ns : List Int} {o : MO} (h : OwnT W st c Z) (hst : W st = some o) (hl : W l = none) (hn : n ∉ Z.map Prod.fst) : OwnT ((W.set l (.lst (ns.map .int))).set c (.dk (dput (zD Z) (.inr n) (.ptr l)))) st c (Z ++ [(n, l, ns)]) := by
  have hlc : l ≠ c := fun e => by rw [e, h.top] at hl; cases hl
  have hls : l ≠ st := fun e => by rw [e, hst] at hl; cases hl
  have hz : ∀ z ∈ Z, z.2.1 ≠ l := fun z hz e => by have := h.at' z hz; rw [e, hl] at this; cases this
  refine ⟨?_, ?_, ?_, ?_, h.nc⟩
  · rw [Wd.set_same, put_new]
    · unfold zD; rw [List.map_append]; rfl
    · unfold look zD
      rw [Option.map_eq_none_iff, List.find?_eq_none]
      intro x hx e
      obtain ⟨z, hz, rfl⟩ := List.mem_map.mp hx
      exact hn (List.mem_map.mpr ⟨z, hz, Sum.inr.inj (of_decide_eq_true e)⟩)
  · intro z h'
    rcases List.mem_append.mp h' with h' | h'
    · rw [Wd.set_ne (h.nel h'), Wd.set_ne (hz z h')]; exact h.at' z h'
    · rw [List.mem_singleton] at h'
      subst h'
      rw [Wd.set_ne hlc, Wd.set_same]
  · intro z h'
    rcases List.mem_append.mp h' with h' | h'
    · exact h.ne z h'
    · rw [List.mem_singleton] at h'
      subst h'
      exact hls
  · rw [List.map_append, List.nodup_append]
    refine ⟨h.nd, by simp, fun a ha b hb e => ?_⟩
    obtain ⟨z, hz', rfl⟩ := List.mem_map.mp ha
    simp only [List.map_cons, List.map_nil, List.mem_singleton] at hb
    exact hz z hz' (e.trans hb)
/-- the table with other numbers at n -/
def zSet (Z : ZTb) (n : Str) (l : Addr) (ns : List Int) : ZTb := Z.map fun z => if z.1 = n then (n, l, ns) else z
theorem zSet_mem {Z : ZTb} {n : Str} {l : Addr} {ns : List Int} {z : Str × Addr × List Int} (h : z ∈ zSet Z n l ns) : (z = (n, l, ns) ∧ n ∈ Z.map Prod.fst) ∨ (z ∈ Z ∧ z.1 ≠ n) := by
  obtain ⟨y, hy, rfl⟩ := List.mem_map.mp h
  by_cases e : y.1 = n
  · rw [if_pos e]; exact .inl ⟨rfl, List.mem_map.mpr ⟨y, hy, e⟩⟩
  · rw [if_neg e]; exact .inr ⟨hy, e⟩
theorem zD_put {Z : ZTb} {n : Str} {l : Addr} {ns : List Int} (hn : n ∈ Z.map Prod.fst) : dput (zD Z) (.inr n) (.ptr l) = zD (zSet Z n l ns) := by
  unfold dput
  have : ((zD Z).any fun kv => decide (kv.1 = Sum.inr n)) = true := by
    obtain ⟨z, hz, e⟩ := List.mem_map.mp hn
    exact List.any_eq_true.mpr ⟨(Sum.inr z.1, .ptr z.2.1), List.mem_map.mpr ⟨z, hz, rfl⟩, decide_eq_true (by rw [e])⟩
  rw [if_pos this]
  unfold zD zSet
  rw [List.map_map, List.map_map]
  refine List.map_congr_left fun z _ => ?_
  show (if (Sum.inr z.1 : Key) = Sum.inr n then ((Sum.inr z.1 : Key), D.ptr l) else (Sum.inr z.1, .ptr z.2.1)) = ((Sum.inr (if z.1 = n then (n, l, ns) else z).1 : Key), D.ptr (if z.1 = n then (n, l, ns) else z).2.1)
  by_cases e : z.1 = n
  · rw [if_pos (by rw [e]), if_pos e, e]
  · rw [if_neg (fun h => e (Sum.inr.inj h)), if_neg e]
theorem nd_inj {α β : Type} {f : α → β} : ∀ {xs : List α}, (xs.map f).Nodup → ∀ {x y : α}, x ∈ xs → y ∈ xs → f x = f y → x = y
  | z :: xs, nd, x, y, hx, hy, e => by
    rw [List.map_cons, List.nodup_cons] at nd
    rcases List.mem_cons.mp hx with h1 | h1
    · rcases List.mem_cons.mp hy with h2 | h2
      · rw [h1, h2]
      · exact absurd (List.mem_map.mpr ⟨y, h2, by rw [← e, h1]⟩) nd.1
    · rcases List.mem_cons.mp hy with h2 | h2
      · exact absurd (List.mem_map.mpr ⟨x, h1, by rw [e, h2]⟩) nd.1
      · exact nd_inj nd.2 h1 h2 e
theorem zSet_nd {Z : ZTb} {n : Str} {l : Addr} {ns : List Int} (nn : (Z.map Prod.fst).Nodup) (nd : (Z.map fun z => z.2.1).Nodup) (h : ∀ z ∈ Z, z.1 ≠ n → z.2.1 ≠ l) : ((zSet Z n l ns).map fun z => z.2.1).Nodup := by
  induction Z with
  | nil => exact List.nodup_nil
  | cons y Z ih =>
    rw [List.map_cons, List.nodup_cons] at nn nd
    have ih := ih nn.2 nd.2 (fun z hz => h z (List.mem_cons_of_mem _ hz))
    show ((if y.1 = n then (n, l, ns) else y).2.1 :: (zSet Z n l ns).map fun z => z.2.1).Nodup
    rw [List.nodup_cons]
    refine ⟨fun hm => ?_, ih⟩
    obtain ⟨z, hz, e⟩ := List.mem_map.mp hm
    rcases zSet_mem hz with ⟨rfl, hn⟩ | ⟨hz', hzn⟩
    · by_cases hy : y.1 = n
      · exact nn.1 (by rw [hy]; exact hn)
      · rw [if_neg hy] at e
        exact h y List.mem_cons_self hy e.symm
    · by_cases hy : y.1 = n
      · rw [if_pos hy] at e
        exact h z (List.mem_cons_of_mem _ hz') hzn e
      · rw [if_neg hy] at e
        exact nd.1 (List.mem_map.mpr ⟨z, hz', e⟩)
/-- a fresh list in place of n's -/
theorem OwnT.put {W : Wd} {st c l : Addr} {Z : ZTb} {n : Str} {ns : List Int} {o : MO} (h : OwnT W st c Z) (hst : W st = some o) (hl : W l = none) (nn : (Z.map Prod.fst).Nodup) (hn : n ∈ Z.map Prod.fst) : OwnT ((W.set l (.lst (ns.map .int))).set c (.dk (dput (zD Z) (.inr n) (.ptr l)))) st c (zSet Z n l ns) := by
  have hlc : l ≠ c := fun e => by rw [e, h.top] at hl; cases hl
  have hls : l ≠ st := fun e => by rw [e, hst] at hl; cases hl
  have hz : ∀ z ∈ Z, z.2.1 ≠ l := fun z hz e => by have := h.at' z hz; rw [e, hl] at this; cases this
  refine ⟨by rw [Wd.set_same, zD_put hn], fun z h' => ?_, fun z h' => ?_, zSet_nd nn h.nd fun z hz' _ => hz z hz', h.nc⟩
  · rcases zSet_mem h' with ⟨rfl, _⟩ | ⟨h', _⟩
    · rw [Wd.set_ne hlc, Wd.set_same]
    · rw [Wd.set_ne (h.nel h'), Wd.set_ne (hz z h')]; exact h.at' z h'
  · rcases zSet_mem h' with ⟨rfl, _⟩ | ⟨h', _⟩
    · exact hls
    · exact h.ne z h'
/-- other numbers in n's list -/
theorem OwnT.upd {W : Wd} {st c l : Addr} {Z : ZTb} {n : Str} {ns ms : List Int} (h : OwnT W st c Z) (nn : (Z.map Prod.fst).Nodup) (hn : (n, l, ms) ∈ Z) : OwnT (W.set l (.lst (ns.map .int))) st c (zSet Z n l ns) := by
  have hlc : l ≠ c := h.nel hn
  have hz : ∀ z ∈ Z, z.1 ≠ n → z.2.1 ≠ l := fun z hz e e2 => e (congrArg Prod.fst (nd_inj h.nd hz hn e2))
  refine ⟨?_, fun z h' => ?_, fun z h' => ?_, zSet_nd nn h.nd hz, h.nc⟩
  · rw [Wd.set_ne (Ne.symm hlc), h.top, ← zD_put (l := l) (List.mem_map.mpr ⟨_, hn, rfl⟩)]
    have e1 : look (zD Z) (.inr n) = some (.ptr l) := by
      clear h hz hlc
      induction Z with
      | nil => cases hn
      | cons y Z ih =>
        unfold look zD
        rw [List.map_cons, List.find?_cons]
        rw [List.map_cons, List.nodup_cons] at nn
        rcases List.mem_cons.mp hn with rfl | hn
        · rw [decide_eq_true rfl]; rfl
        · rw [decide_eq_false (fun e => nn.1 (by rw [Sum.inr.inj e]; exact List.mem_map.mpr ⟨_, hn, rfl⟩))]
          exact ih nn.2 hn
    congr 2
    unfold dput
    split
    · symm
      have : ∀ kv ∈ zD Z, (if kv.1 = Sum.inr n then (kv.1, D.ptr l) else kv) = kv := fun kv hkv => by
        obtain ⟨z, hz', rfl⟩ := List.mem_map.mp hkv
        by_cases e : z.1 = n
        · have : z = (n, l, ms) := nd_inj nn hz' hn e
          subst this
          rw [if_pos rfl]
        · rw [if_neg (fun h => e (Sum.inr.inj h))]
      exact (List.map_congr_left this).trans (List.map_id' _)
    · rename_i g
      exfalso
      exact g (List.any_eq_true.mpr ⟨(Sum.inr n, .ptr l), List.mem_map.mpr ⟨_, hn, rfl⟩, by simp⟩)
  · rcases zSet_mem h' with ⟨rfl, _⟩ | ⟨h', e⟩
    · rw [Wd.set_same]
    · rw [Wd.set_ne (hz z h' e)]; exact h.at' z h'
  · rcases zSet_mem h' with ⟨rfl, _⟩ | ⟨h', _⟩
    · exact h.ne (n, l, ms) hn
    · exact h.ne z h'
/-- without n -/
def zCut (Z : ZTb) (n : Str) : ZTb := Z.filter fun z => decide (z.1 ≠ n)
theorem OwnT.cut {W : Wd} {st c : Addr} {Z : ZTb} (n : Str) (h : OwnT W st c Z) : OwnT (W.set c (.dk (dcut (zD Z) (.inr n)))) st c (zCut Z n) := by
  refine ⟨?_, fun z h' => ?_, fun z h' => h.ne z (List.mem_filter.mp h').1, ?_, h.nc⟩
  · rw [Wd.set_same]
    congr 2
    unfold dcut zD zCut
    rw [List.filter_map]
    congr 1
    refine List.filter_congr fun z _ => ?_
    show decide _ = decide _
    by_cases e : z.1 = n
    · simp [e]
    · simp [e]
  · have := (List.mem_filter.mp h').1
    rw [Wd.set_ne (h.nel this)]; exact h.at' z this
  · exact h.nd.sublist ((List.filter_sublist).map _)
end DL

namespace DL
open PySem PySem.Spec PyProof.Rows L2
def pe (T : PTb) (k : Nat) (t : Trm) : Int := (pol T t).getD k 0
theorem pe_var (T : PTb) {k : Nat} (hk : k < 21) {v : Int} (hv : 0 ≤ v) : pe T k (.var v) = if k = v.toNat + 1 then 1 else 0 := by
  unfold pe
  rw [pol, rep_get hk, show (v + 1).toNat = v.toNat + 1 by omega]
/-- variables from 0 to 19 -/
def V20 (t : Trm) : Prop := ∀ v ∈ occ t, 0 ≤ v ∧ v < 20
theorem V20.arg {f : Str} {ts : List Trm} (h : V20 (.app f ts)) {t : Trm} (ht : t ∈ ts) : V20 t := fun v hv => h v (occ_of ht hv)
/-- the order -/
def gtP (T : PTb) (s t : Trm) : Prop := pe T 0 t < pe T 0 s ∧ ∀ k, k < 20 → pe T (k + 1) t ≤ pe T (k + 1) s
instance (T : PTb) (s t : Trm) : Decidable (gtP T s t) := by unfold gtP; infer_instance
theorem V20.nn {t : Trm} (h : V20 t) : ∀ v ∈ occ t, 0 ≤ v := fun v hv => (h v hv).1
theorem V20.sub {σ : Int → Trm} {t : Trm} (h : V20 t) (hσ : ∀ v, 0 ≤ v → v < 20 → V20 (σ v)) : V20 (t.sub σ) := fun v hv => by
  induction t using Trm.ind with
  | hv w =>
    have := h w (occ_one w)
    exact hσ w this.1 this.2 v (by rwa [Trm.sub] at hv)
  | ha f ts ih =>
    rw [sub_app] at hv
    obtain ⟨u, hu, hv⟩ := occ_iff.mp hv
    obtain ⟨t, ht, rfl⟩ := List.mem_map.mp hu
    exact ih t ht (h.arg ht) hv
end DL

namespace DL
open PySem PySem.Spec PyProof.Rows L2
def sumL (h : Sy → Int) : List Sy → Int
  | [] => 0
  | s :: r => h s + sumL h r
theorem sumL_app (h : Sy → Int) : ∀ xs ys : List Sy, sumL h (xs ++ ys) = sumL h xs + sumL h ys
  | [], ys => by rw [List.nil_append, sumL]; omega
  | x :: xs, ys => by rw [List.cons_append, sumL, sumL, sumL_app h xs ys]; omega
def sumT (h : Sy → Int) (t : Trm) : Int := sumL h t.syms
def sumTs (h : Sy → Int) : List Trm → Int
  | [] => 0
  | t :: ts => sumT h t + sumTs h ts
theorem sumL_symss (h : Sy → Int) : ∀ ts : List Trm, sumL h (Trm.symss ts) = sumTs h ts
  | [] => rfl
  | t :: ts => by rw [Trm.symss, sumL_app, sumL_symss h ts, sumTs]; rfl
theorem sumT_app (h : Sy → Int) (f : Str) (ts : List Trm) : sumT h (.app f ts) = h (.f f) + sumTs h ts := by
  unfold sumT
  rw [Trm.syms, sumL, sumL_symss]
/-- the weight of a symbol -/
def hw (ws : Ws) (v : Int) : Sy → Int
  | .v _ => v
  | .f n => (wOf ws n).getD v
/-- terms over it -/
def Kt (S : SgS) (ar : Str → Nat) (t : Trm) : Prop := On S t ∧ Fit ar t
theorem Kt.args {S : SgS} {ar : Str → Nat} {f : Str} {ts : List Trm} (h : Kt S ar (.app f ts)) : f ∈ S.names ∧ ts.length = ar f ∧ ∀ t ∈ ts, Kt S ar t := ⟨h.1.args.1, h.2.args.1, fun t ht => ⟨h.1.args.2 t ht, h.2.args.2 t ht⟩⟩
section
variable {S : SgS} {ws : Ws} {v : Int} {ar : Str → Nat}
/-- t is s below weightless names -/
inductive Tower (ws : Ws) : Trm → Trm → Prop
  | one {f : Str} {s : Trm} (h : wOf ws f = some 0) : Tower ws (.app f [s]) s
  | more {f : Str} {t s : Trm} (h : wOf ws f = some 0) (r : Tower ws t s) : Tower ws (.app f [t]) s
theorem Tower.sub {σ : Int → Trm} {t s : Trm} (h : Tower ws t s) : Tower ws (t.sub σ) (s.sub σ) := by
  induction h with
  | one h => rw [sub_app]; exact .one h
  | more h _ ih => rw [sub_app]; exact .more h ih
theorem Tower.sum {h : Sy → Int} {t s : Trm} (hf : ∀ f, wOf ws f = some 0 → h (.f f) = 0) (r : Tower ws t s) : sumT h t = sumT h s := by
  induction r with
  | one hh => rw [sumT_app, hf _ hh, sumTs, sumTs]; omega
  | more hh _ ih => rw [sumT_app, hf _ hh, sumTs, sumTs, ih]; omega
end
end DL

namespace DL
open PySem PySem.Spec PyProof.Rows L2
/-- the four cells of a signature in the making -/
structure SgO (W : Wd) (p a b c : Addr) (S : SgS) : Prop where
  d : Dst4 p a b c
  wp : W p = some (sgM a b c)
  wa : W a = some (.lst (S.names.map .str))
  wb : W b = some (.dk S.ars)
  wc : W c = some (.dk S.flgs)
theorem SgO.eq {W : Wd} {p a b c : Addr} {S : SgS} (h : SgO W p a b c S) : sgW W p a b c S = W := by
  obtain ⟨d, h1, h2, h3, h4⟩ := h
  funext z
  unfold sgW sgW0
  simp only [Wd.set]
  by_cases e1 : z = c
  · subst e1; rw [if_pos rfl, h4]
  · rw [if_neg e1]
    by_cases e2 : z = b
    · subst e2; rw [if_pos rfl, h3]
    · rw [if_neg e2]
      by_cases e3 : z = a
      · subst e3; rw [if_pos rfl, h2]
      · rw [if_neg e3]
        by_cases e4 : z = p
        · subst e4; rw [if_pos rfl, h1]
        · rw [if_neg e4]
theorem SgO.of {W : Wd} {p a b c : Addr} {S : SgS} (d : Dst4 p a b c) : SgO (sgW W p a b c S) p a b c S := ⟨d, d.wp, d.wa, d.wb, d.wc⟩
theorem sgW_ne {W : Wd} {p a b c z : Addr} {S : SgS} (h1 : z ≠ p) (h2 : z ≠ a) (h3 : z ≠ b) (h4 : z ≠ c) : sgW W p a b c S z = W z := by
  unfold sgW sgW0
  rw [Wd.set_ne h4, Wd.set_ne h3, Wd.set_ne h2, Wd.set_ne h1]
theorem SgO.at' {W : Wd} {p a b c : Addr} {S : SgS} (h : SgO W p a b c S) : SgAt W (.ptr p) S := ⟨_, _, _, objOf_ptr h.wp, lstRd_ptr h.wa, dkOf_ptr h.wb, dkOf_ptr h.wc⟩
theorem SgO.keep {W W' : Wd} {p a b c : Addr} {S : SgS} (h : SgO W p a b c S) (k : ∀ z, z = p ∨ z = a ∨ z = b ∨ z = c → W' z = W z) : SgO W' p a b c S :=
  ⟨h.d, by rw [k p (.inl rfl)]; exact h.wp, by rw [k a (.inr (.inl rfl))]; exact h.wa, by rw [k b (.inr (.inr (.inl rfl)))]; exact h.wb, by rw [k c (.inr (.inr (.inr rfl)))]; exact h.wc⟩
theorem SgO.grow {W W' : Wd} {p a b c : Addr} {S : SgS} (h : SgO W p a b c S) (g : Grow W W') : SgO W' p a b c S := ⟨h.d, g _ _ h.wp, g _ _ h.wa, g _ _ h.wb, g _ _ h.wc⟩
theorem SgAt.grow {W W' : Wd} {x : D} {S : SgS} (h : SgAt W x S) (g : Grow W W') : SgAt W' x S := let ⟨a, b, c, h0, h1, h2, h3⟩ := h; ⟨a, b, c, objOf_grow g h0, lstRd_grow g h1, dkOf_grow g h2, dkOf_grow g h3⟩
theorem walk_lr {d : D} {W : Wd} {ds : List D} {N : List D → (Wd → Prop) → Wd → Prop} (h : lstRd W d = some ds) (k : N ds (okOf d ds) W) : walkD d W N := by
  cases d with
  | ptr l =>
    cases e : W l with
    | none => simp [lstRd, lstOf, e] at h
    | some m =>
      cases m with
      | lst es => simp only [lstRd, lstOf, e] at h; cases h; exact go_walkP e k
      | _ => simp [lstRd, lstOf, e] at h
  | lst es => cases h; exact go_walkL k
  | flst es => cases h; exact go_walkF k
  | _ => simp [lstRd, lstOf] at h
theorem okOf_lr {d : D} {W : Wd} {ds : List D} (h : lstRd W d = some ds) {W' : Wd} (g : Grow W W') : okOf d ds W' := by
  cases d with
  | ptr l =>
    cases e : W l with
    | none => simp [lstRd, lstOf, e] at h
    | some m =>
      cases m with
      | lst es => simp only [lstRd, lstOf, e] at h; cases h; exact g _ _ e
      | _ => simp [lstRd, lstOf, e] at h
  | _ => trivial
/-- a signature that came about by declare -/
structure SgV (S : SgS) : Prop where
  nd : S.names.Nodup
  len : S.length ≤ 12
  ok : ∀ x ∈ S, isName x.1 = true ∧ (0 ≤ x.2.1 ∧ x.2.1 ≤ 3) ∧ (x.2.2 = true → x.2.1 = 2)
theorem isName_len {n : Str} (h : isName n = true) : 1 ≤ n.length ∧ n.length ≤ 8 := by
  unfold isName at h
  rw [Bool.and_eq_true] at h
  exact of_decide_eq_true h.2
theorem SgV.nm {S : SgS} (h : SgV S) {n : Str} (hn : n ∈ S.names) : isName n = true := by
  obtain ⟨x, hx, rfl⟩ := List.mem_map.mp hn
  exact (h.ok x hx).1
theorem SgS.find_mem : ∀ {S : SgS}, S.names.Nodup → ∀ {x : Str × Int × Bool}, x ∈ S → S.find x.1 = some x.2
  | y :: S, nd, x, h => by
    unfold SgS.find
    rw [List.find?_cons]
    unfold SgS.names at nd
    rw [List.map_cons, List.nodup_cons] at nd
    rcases List.mem_cons.mp h with e | h
    · subst e; rw [decide_eq_true rfl]; rfl
    · rw [decide_eq_false (fun e : y.1 = x.1 => nd.1 (by rw [e]; exact List.mem_map_of_mem (f := (·.1)) h))]
      exact SgS.find_mem nd.2 h
theorem SgV.nil : SgV [] := ⟨List.nodup_nil, by decide, fun x h => by cases h⟩
/-- declare accepts -/
def dcl (S : SgS) (n : Str) (r : Int) (f : Bool) : Prop := isName n = true ∧ (0 ≤ r ∧ r ≤ 3) ∧ (f = true → r = 2) ∧ n ∉ S.names ∧ S.length < 12
instance (S : SgS) (n : Str) (r : Int) (f : Bool) : Decidable (dcl S n r f) := by unfold dcl; infer_instance
theorem SgV.snoc {S : SgS} {n : Str} {r : Int} {f : Bool} (h : SgV S) (hd : dcl S n r f) : SgV (S ++ [(n, r, f)]) := by
  obtain ⟨h1, h2, h3, h4, h5⟩ := hd
  refine ⟨?_, by rw [List.length_append]; simp; omega, fun x hx => ?_⟩
  · rw [names_app, List.nodup_append]
    exact ⟨h.nd, by simp, fun a ha b hb => by rw [List.mem_singleton] at hb; rw [hb]; exact fun e => h4 (by have e : a = n := e; rw [← e]; exact ha)⟩
  · rcases List.mem_append.mp hx with hx | hx
    · exact h.ok x hx
    · rw [List.mem_singleton] at hx; rw [hx]; exact ⟨h1, h2, h3⟩
end DL

namespace DL
open PySem PySem.Spec PyProof.Rows L2
def aNevE : AE := fun _ _ _ => False
def aNevT : AT := fun _ _ _ => False
theorem de_nev {X : Cx} {G0 : Hp} {e : Expr} : DE X G0 e (fun _ _ _ => False) aNevE := ⟨⟨fun _ _ _ _ _ _ h => h.elim⟩, fun _ _ _ _ _ _ _ _ _ _ h => h.elim⟩
theorem dt_nev {X : Cx} {G0 : Hp} {e : Expr} : DT X G0 e (fun _ _ _ => False) aNevT := ⟨⟨fun _ _ _ _ _ _ h => h.elim⟩, fun _ _ _ _ _ _ _ _ _ _ h => h.elim⟩
section
variable {X : Cx} {G0 : Hp} {o i : Expr} {to ti : TE} {ao ai : AE} {tpos pos : PySem.Pos}
def aDelS (o i : AE) : AS := fun A δ W => o δ W fun x W1 => i δ W1 fun y W2 => ∃ q kds k d, x = .ptr q ∧ W2 q = some (.dk kds) ∧ keyOf y = some k ∧ look kds k = some d ∧ A.nx δ (W2.set q (.dk (dcut kds k)))
theorem ds_del (ho : DE X G0 o to ao) (hi : DE X G0 i ti ai) : DS X G0 (.Delete [.Subscript o i tpos] pos) (sDDel to ti) (aDelS ao ai) := ⟨ps_ddel ho.pe hi.pe, fun E A σ H G δ W s0 R S eo h => by
  refine ho.sim σ H _ G δ W _ s0 R S h fun x dx G1 H1 W1 s1 R1 d1 h1 => ?_
  refine hi.sim σ H1 _ G1 δ W1 _ (s0.trans s1) R1 (S.up s1) h1 fun y dy G2 H2 W2 s2 R2 d2 hh => ?_
  obtain ⟨q, kds, kk, d, rfl, hw, ek, el, q'⟩ := hh
  cases (show x = V.ref q from d1)
  obtain ⟨_, u, e2, vs, e3, e4⟩ := R2.own _ _ hw
  subst e3
  rcases IsKs.look kk e4 with ⟨d', v', f1, f2, qv⟩ | ⟨f1, _⟩
  · rw [el] at f1
    cases f1
    exact ⟨q, vs, kk, rfl, e2, keyOf_at d2 ek, by rw [f2]; simp, eo.nx _ _ G2 _ _ (s1.trans s2) (R2.put (m := .dk (dcut kds kk)) hw ⟨_, rfl, isKs_cut kk e4⟩) (S.up (s1.trans s2)) q'⟩
  · rw [el] at f1; cases f1⟩
theorem go_del {o i : AE} {A : AEnds} {δ : Sl} {W : Wd} (h : o δ W fun x W1 => i δ W1 fun y W2 => ∃ q kds k d, x = .ptr q ∧ W2 q = some (.dk kds) ∧ keyOf y = some k ∧ look kds k = some d ∧ A.nx δ (W2.set q (.dk (dcut kds k)))) : aDelS o i A δ W := h
end
def dEqL (neg : Bool) : RD2 := fun x y W Q => ∃ xs ys, lstRd W x = some xs ∧ lstRd W y = some ys ∧ (D.lst xs).near (.lst ys) ∧ Q (.bl (if neg = true then !(D.lst xs).eqv (.lst ys) else (D.lst xs).eqv (.lst ys))) W
theorem sr_eqL {K : PySem.W.Frag} {neg : Bool} : SimR2 K (rEqP K neg) (dEqL neg) := fun G H W x y dx dy Q QD R hx hy h k => by
  obtain ⟨xs, ys, e1, e2, ⟨p1, p2, z⟩, q⟩ := h
  obtain ⟨a, vs, rfl, ha, qa⟩ := lstRd_at R hx e1
  obtain ⟨b, us, rfl, hb, qb⟩ := lstRd_at R hy e2
  have r1 : Dp K H (.ref a) (D.lst xs).py := .lst ha (IsDs.dp R xs vs p1 qa)
  have r2 : Dp K H (.ref b) (D.lst ys).py := .lst hb (IsDs.dp R ys us p2 qb)
  exact ⟨_, _, r1, r2, D.plain_py _ p1, D.plain_py _ p2, z, k.here (d := .bl _) R rfl q⟩
theorem ints_near {as bs : List Int} : (D.lst (as.map .int)).near (.lst (bs.map .int)) := by
  refine ⟨by rw [D.plain]; exact plains_of fun d hd => by obtain ⟨i, _, rfl⟩ := List.mem_map.mp hd; rfl, by rw [D.plain]; exact plains_of fun d hd => by obtain ⟨i, _, rfl⟩ := List.mem_map.mp hd; rfl, ?_⟩
  have : (D.lst (as.map .int)).py.depth ≤ 1 := by
    rw [D.py, PyData.depth]
    have : PyData.depthAll (D.pys (as.map .int)) ≤ 0 := depthAll_le fun d hd => by
      obtain ⟨i, _, rfl⟩ := List.mem_map.mp hd
      simp [D.py, PyData.depth]
    omega
  omega
theorem intsL_eqv : ∀ {as bs : List Int}, (D.lst (as.map .int)).eqv (.lst (bs.map .int)) = decide (as = bs) := by
  intro as bs
  show PyData.eqv _ _ = _
  rw [D.py, D.py, PyData.eqv, allEqv_all]
  induction as generalizing bs with
  | nil => cases bs <;> simp [allEqv]
  | cons a as ih =>
    cases bs with
    | nil => simp [allEqv]
    | cons b bs =>
      rw [List.map_cons, List.map_cons, allEqv, eqw_ii, ih]
      by_cases h : a = b
      · subst h; simp
      · simp [h]
theorem go_eqLI {x y : D} {as bs : List Int} {W : Wd} {Q : DQ} (h1 : lstRd W x = some (as.map .int)) (h2 : lstRd W y = some (bs.map .int)) (q : Q (.bl (decide (as = bs))) W) : dEqL false x y W Q := ⟨_, _, h1, h2, ints_near, by rw [if_neg (by decide), intsL_eqv]; exact q⟩
theorem go_neLI {x y : D} {as bs : List Int} {W : Wd} {Q : DQ} (h1 : lstRd W x = some (as.map .int)) (h2 : lstRd W y = some (bs.map .int)) (q : Q (.bl (!decide (as = bs))) W) : dEqL true x y W Q := ⟨_, _, h1, h2, ints_near, by rw [if_pos rfl, intsL_eqv]; exact q⟩
theorem sortI_uniq : ∀ {xs ys : List Int}, xs.Perm ys → xs.Pairwise (· ≤ ·) → ys.Pairwise (· ≤ ·) → xs = ys
  | [], ys, p, _, _ => (List.Perm.nil_eq p)
  | x :: xs, [], p, _, _ => (List.Perm.eq_nil p)
  | x :: xs, y :: ys, p, h1, h2 => by
    have h1' := List.pairwise_cons.mp h1
    have h2' := List.pairwise_cons.mp h2
    have e : x = y := by
      have hx : x ∈ y :: ys := p.mem_iff.mp List.mem_cons_self
      have hy : y ∈ x :: xs := p.mem_iff.mpr List.mem_cons_self
      rcases List.mem_cons.mp hx with e | hx
      · exact e
      rcases List.mem_cons.mp hy with e | hy
      · exact e.symm
      have a := h1'.1 y hy
      have b := h2'.1 x hx
      omega
    subst e
    rw [sortI_uniq (List.Perm.cons_inv p) h1'.2 h2'.2]
end DL

namespace DL
open PySem PySem.Spec PyProof.Rows L2
def rIsB : R2 := fun x y H Q => ∃ b, y = .bl b ∧ ((∃ a, x = .bl a ∧ Q (.bl (decide (a = b))) H) ∨ ((∃ a, x = .ref a) ∧ Q (.bl false) H))
theorem op_isB {X : Cx} : OpR X (compareOp .Is) rIsB := by
  intro pins s σ H x y v u Q I rx ry h
  obtain ⟨b, rfl, ⟨a, rfl, q⟩ | ⟨⟨a, rfl⟩, q⟩⟩ := h
  · exact op_is_bl pins s σ H _ _ v u Q I rx ry ⟨a, b, rfl, rfl, q⟩
  · cases (show v = Value.ref a from rx)
    cases (show u = Value.bool b from ry)
    exact wpAny_is_other rfl (fun z => by cases z) ⟨.bl false, H, I, rfl, q⟩
def dIsB : RD2 := fun x y W Q => ∃ b, y = .bl b ∧ ((∃ a, x = .bl a ∧ Q (.bl (decide (a = b))) W) ∨ ((∃ ds, x = .tup ds) ∧ Q (.bl false) W))
theorem sr_isB {K : PySem.W.Frag} : SimR2 K rIsB dIsB := fun G H W x y dx dy Q QD R hx hy h k => by
  obtain ⟨b, rfl, ⟨a, rfl, q⟩ | ⟨⟨ds, rfl⟩, q⟩⟩ := h
  · exact ⟨b, hy, .inl ⟨a, hx, k.here (d := .bl _) R rfl q⟩⟩
  · obtain ⟨p, _, rfl, _⟩ := hx
    exact ⟨b, hy, .inr ⟨⟨p, rfl⟩, k.here (d := .bl _) R rfl q⟩⟩
theorem go_isBB {a b : Bool} {W : Wd} {Q : DQ} (h : Q (.bl (decide (a = b))) W) : dIsB (.bl a) (.bl b) W Q := ⟨b, rfl, .inl ⟨a, rfl, h⟩⟩
theorem go_isBT {ds : List D} {b : Bool} {W : Wd} {Q : DQ} (h : Q (.bl false) W) : dIsB (.tup ds) (.bl b) W Q := ⟨b, rfl, .inr ⟨⟨ds, rfl⟩, h⟩⟩
end DL

namespace DL
open PySem PySem.Spec PyProof.Rows L2
local macro_rules | `(tactic| walk_at "sd") => `(tactic| first | assumption | rfl | decide | (simp [sizeLine_val]; done) | omega)
local macro_rules | `(tactic| walk_at "rd1") => `(tactic| first
  | ((with_reducible refine' go_var ?h0 ?_); (case h0 => rfl))
  | with_reducible refine go_c ?_
  | with_reducible refine go_op ?_
  | with_reducible refine go_seq ?_
  | with_reducible refine go_asg ?_
  | with_reducible refine go_nameI ?_
  | ((with_reducible refine' go_name ?h0 ?_); (case h0 => rfl))
  | with_reducible refine go_ifs ?_
  | with_reducible refine go_test ?_
  | with_reducible refine go_bl ?_
  | with_reducible refine go_int ?_
  | with_reducible refine go_cb ?_
  | with_reducible refine go_cons ?_
  | with_reducible refine go_nil ?_
  | with_reducible refine go_ret ?_
  | with_reducible refine go_call ?_
  | with_reducible refine go_callN ?_
  | with_reducible refine go_drop ?_
  | with_reducible refine go_next ?_
  | with_reducible refine go_iteT ?_
  | with_reducible refine go_iteF ?_
  | ((with_reducible refine' go_iteC1 ?hc ?_); (case hc => first | rfl | (simp only [decide_true, decide_false, decide_eq_true_eq, Bool.not_true, Bool.not_false]; done)))
  | ((with_reducible refine' go_iteC0 ?hc ?_); (case hc => first | rfl | (simp only [decide_true, decide_false, decide_eq_true_eq, Bool.not_true, Bool.not_false]; done)))
  | with_reducible refine go_eqI ?_
  | with_reducible refine go_neI ?_
  | with_reducible refine go_eqS ?_
  | with_reducible refine go_neS ?_
  | with_reducible refine go_i0 ?_
  | with_reducible refine go_addI ?_
  | with_reducible refine go_ltI ?_
  | with_reducible refine go_ltS ?_
  | with_reducible refine go_isiTI ?_
  | with_reducible refine go_isiTT ?_
  | ((with_reducible refine' go_isi ?h0 ?h1 ?h2 ?_); (case h0 => first | rfl | (simp; done) | assumption); (case h1 => decide); (case h2 => first | (exact (show isiB _ _ = true by decide)) | (exact (show isiB _ _ = false by decide)) | rfl))
  | ((with_reducible refine' go_iC ?h0 ?_); (case h0 => first | (exact Or.inr ⟨by decide, by decide⟩) | (exact Or.inl ⟨by decide, by decide⟩) | (exact ⟨by decide, by decide⟩) | (exact ⟨by decide, by decide, by decide⟩) | assumption | (show (0 : Int) < _; first | decide | omega) | (exact ⟨by omega, by omega⟩)))
  | with_reducible refine go_and ?_
  | with_reducible refine go_or ?_
  | with_reducible refine go_not ?_
  | with_reducible refine go_ixT0 ?_
  | with_reducible refine go_ixL0 ?_
  | ((with_reducible refine' go_ixT ?h0 ?_); (case h0 => first | rfl | (simp; done)))
  | ((with_reducible refine' go_ixL ?h0 ?_); (case h0 => first | rfl | (simp; done)))
  | ((with_reducible refine' go_ixP ?hw ?h0 ?_); (case hw => first | assumption | exact Wd.set_same .. | (simp; done)); (case h0 => first | rfl | (simp; done)))
  | with_reducible refine go_intI ?_
  | ((with_reducible refine' go_lenV ?h0 ?_); (case h0 => first | rfl | exact lenOf_ptr (by assumption) | exact lenOf_ptr (Wd.set_same ..) | (simp [sizeLine_val]; done)))
  | with_reducible refine go_sl ?_
  | with_reducible refine go_part ?_
  | with_reducible refine go_noPart ?_
  | ((with_reducible refine go_slT ?_); try rw [cutD_1])
  | with_reducible refine go_slL ?_
  | ((with_reducible refine' go_slP ?hw ?_); (case hw => assumption))
  | with_reducible refine go_tup ?_
  | with_reducible refine go_lst ?_
  | ((with_reducible refine' go_len ?h0 ?_); (case h0 => (first | (simp [sizeLine_val]; done) | (rw [sizeLine_val]; omega) | (rw [sizeLine_val]; simp; omega))))
  | with_reducible refine go_newF ?_
  | ((with_reducible refine go_newT ?_))
  | ((with_reducible refine' go_addT ?h0 ?_); (case h0 => (first | (simp [sizeLine_val]; done) | (rw [sizeLine_val]; omega) | (rw [sizeLine_val]; simp; omega))))
  | with_reducible refine go_for ?_
  | with_reducible refine go_iseq ?_
  | with_reducible refine go_walkT ?_
  | with_reducible refine go_walkL ?_
  | with_reducible refine go_walkF ?_
  | with_reducible refine go_walkS ?_
  | ((with_reducible refine' go_walkP ?hw ?_); (case hw => assumption))
  | with_reducible refine go_rng1 ?_
  | ((with_reducible refine' go_rng1' ?h0 ?_); (case h0 => constructor <;> first | decide | omega))
  | with_reducible refine go_rng2 ?_
  | ((with_reducible refine' go_rng2' ?h0 ?_); (case h0 => refine ⟨?_, ?_, ?_, ?_⟩ <;> first | decide | omega))
  | with_reducible refine go_rngD ?_
  | ((with_reducible refine' go_rngD' ?h0 ?_); (case h0 => refine ⟨?_, ?_, ?_, ?_⟩ <;> first | decide | omega))
  | with_reducible refine go_lc ?_
  | ((with_reducible refine' go_gtup ?h0 ?_); (case h0 => rfl))
  | ((with_reducible refine' go_unl ?h0 ?_); (case h0 => rfl))
  | with_reducible refine go_gcons ?_
  | with_reducible refine go_gnil ?_
  | with_reducible refine go_gsub ?_
  | ((with_reducible refine' go_setL2 ?h0 ?h1 ?_); (case h0 => first | rfl | (simp [ixN]; done)); (case h1 => rfl))
  | ((with_reducible refine' go_setL ?hw ?h0 ?h1 ?_); (case hw => first | assumption | exact Wd.set_same .. | (simp; done)); (case h0 => first | rfl | (simp [ixN]; done)); (case h1 => rfl))
  | ((with_reducible refine' go_aug ?h0 ?_); (case h0 => rfl))
  | with_reducible refine go_bm ?_
  | with_reducible refine go_tyLl ?_
  | ((with_reducible refine' go_tyLp ?hw ?_); (case hw => first | assumption | exact Wd.set_same .. | (simp; done)))
  | ((with_reducible refine' go_append2 ?h0 ?_); (case h0 => first | (simp [sizeLine_val]; done) | (rw [sizeLine_val]; omega) | (rw [sizeLine_val]; simp; omega)))
  | ((with_reducible refine' go_append ?hw ?h0 ?_); (case hw => first | assumption | exact Wd.set_same .. | (simp; done)); (case h0 => first | (simp [sizeLine_val]; done) | (rw [sizeLine_val]; omega) | (rw [sizeLine_val]; simp; omega)))
  | with_reducible refine go_m1 ?_
  | with_reducible refine go_m0 ?_
  | with_reducible refine go_isdigit ?_
  | with_reducible refine go_mstr ?_
  | with_reducible refine go_andV ?_
  | with_reducible refine go_orV ?_
  | with_reducible refine go_notV ?_
  | with_reducible refine go_if ?_
  | with_reducible refine go_chain ?_
  | with_reducible refine go_un ?_
  | with_reducible refine go_u ?_
  | with_reducible refine go_isN ?_
  | with_reducible refine go_isnN ?_
  | with_reducible refine go_isB ?_
  | with_reducible refine go_isnB ?_
  | with_reducible refine go_retN ?_
  | with_reducible refine go_break ?_
  | with_reducible refine go_cont ?_
  | with_reducible refine go_max2 ?_
  | with_reducible refine go_min2 ?_
  | with_reducible refine go_listT ?_
  | with_reducible refine go_tupleT ?_
  | ((with_reducible refine' go_listL ?h0 ?_); (case h0 => first | rfl | (exact lstRd_ptr (by assumption))))
  | ((with_reducible refine' go_tupleL ?h0 ?_); (case h0 => first | rfl | (exact lstRd_ptr (by assumption))))
  | with_reducible refine go_yes ?_
  | ((with_reducible refine' go_varF ?h0 ?hw ?hf ?hd ?_); (case h0 => rfl); (case hw => first | assumption | exact Wd.set_same .. | (simp; done)); (case hf => rfl); (case hd => first | (exact Wd.del_set (by assumption)) | rfl))
  | ((with_reducible refine' go_frz ?h0 ?hw ?hf ?hd ?hs ?_); (case h0 => rfl); (case hw => first | assumption | exact Wd.set_same .. | (simp; done)); (case hf => rfl); (case hd => first | (exact Wd.del_set (by assumption)) | rfl); (case hs => rfl))
  | with_reducible refine go_dk0F ?_
  | with_reducible refine go_get1 ?_
  | with_reducible refine go_get2 ?_
  | ((with_reducible refine' go_dv ?h0 ?_); (case h0 => first | rfl | exact dkOf_ptr (by assumption) | exact dkOf_ptr (Wd.set_same ..)))
  | with_reducible refine go_par ?_
  | with_reducible refine go_par2 ?_
  | with_reducible refine go_zip ?_
  | with_reducible refine go_fmt ?_
  | with_reducible refine go_j ?_
  | with_reducible refine go_jc ?_
  | with_reducible refine go_jn ?_
  | ((with_reducible refine' go_inDk ?h1 ?_); (case h1 => rfl))
  | ((with_reducible refine' go_ninDk ?h1 ?_); (case h1 => rfl))
  | ((with_reducible refine' go_inDp ?hw ?h1 ?_); (case hw => first | assumption | exact Wd.set_same ..); (case h1 => rfl))
  | ((with_reducible refine' go_ninDp ?hw ?h1 ?_); (case hw => first | assumption | exact Wd.set_same ..); (case h1 => rfl))
  | ((with_reducible refine' go_keys ?h0 ?_); (case h0 => rfl))
  | ((with_reducible refine' go_vals ?h0 ?_); (case h0 => rfl))
  | ((with_reducible refine' go_items ?h0 ?_); (case h0 => rfl))
  | ((with_reducible refine' go_itemsT ?h0 ?_); (case h0 => rfl))
  | with_reducible refine go_intB ?_
  | with_reducible refine go_callX ?_
  | with_reducible refine go_callXN ?_
  | with_reducible refine go_raise ?_
  | with_reducible refine go_try ?_
  | with_reducible refine go_tryAs ?_
  | with_reducible refine go_raise1 ?_
  | with_reducible refine go_disp1 ?_
  | with_reducible refine go_irev ?_
  | with_reducible refine go_sortSet ?_
  | with_reducible refine go_enum ?_
  | ((with_reducible refine' go_valsIx ?h0 ?h1 ?_); (case h0 => rfl); (case h1 => rfl))
  | with_reducible refine go_tryM ?_
  | with_reducible refine go_dc ?_
  | ((with_reducible refine' go_dcItems ?h0 ?_); (case h0 => rfl))
  | with_reducible refine go_tryAsF ?_
  | ((with_reducible refine' go_xf ?h0 ?_); (case h0 => rfl))
  | ((with_reducible refine' go_isE ?h0 ?_); (case h0 => rfl))
  | with_reducible refine go_fld ?_
  | ((with_reducible refine' go_fldV ?h0 ?h1 ?_); (case h0 => first | rfl | exact objOf_ptr (by assumption) | exact objOf_ptr (Wd.set_same ..)); (case h1 => rfl))
  | with_reducible refine go_fldS ?_
  | with_reducible refine go_meth ?_
  | ((with_reducible refine' go_methV ?h0 ?h1 ?_); (case h0 => first | rfl | exact objOf_ptr (by assumption) | exact objOf_ptr (Wd.set_same ..)); (case h1 => rfl))
  | with_reducible refine go_methA ?_
  | with_reducible refine go_callKw ?_
  | with_reducible refine go_methN ?_
  | with_reducible refine go_make ?_
  | with_reducible refine go_own ?_
  | ((with_reducible refine' go_lenO ?h0 ?_); (case h0 => first | rfl | exact objOf_ptr (by assumption) | exact objOf_ptr (Wd.set_same ..)))
  | ((with_reducible refine' go_inOb ?h0 ?_); (case h0 => first | rfl | exact objOf_ptr (by assumption) | exact objOf_ptr (Wd.set_same ..)))
  | ((with_reducible refine' go_ninOb ?h0 ?_); (case h0 => first | rfl | exact objOf_ptr (by assumption) | exact objOf_ptr (Wd.set_same ..)))
  | walk_at "rdx")
local macro_rules | `(tactic| walk_at "rd") => `(tactic| (repeat' (walk_at "rd1")))
local macro_rules | `(tactic| walk_at "rs") => `(tactic| (repeat' (first | walk_at "rd1" | refine go_iteD (fun _ => ?_) (fun _ => ?_) | refine go_iteN (fun _ => ?_) (fun _ => ?_) | refine go_iteDN (fun _ => ?_) (fun _ => ?_))))

theorem supB_UnknownName : SupB "name" (defArgs s_UnknownName___init__) (defBody s_UnknownName___init__) (defScope s_UnknownName___init__) :=
  supB_of rfl (fun _ _ _ _ _ _ _ _ _ _ _ => rfl) rfl rfl (by decide) (by decide) rfl rfl rfl (by decide +kernel) (by decide +kernel) (by decide +kernel) (by decide +kernel) (by decide +kernel) (fun env => rfl)
theorem supB_WrongArity : SupB "name" (defArgs s_WrongArity___init__) (defBody s_WrongArity___init__) (defScope s_WrongArity___init__) :=
  supB_of rfl (fun _ _ _ _ _ _ _ _ _ _ _ => rfl) rfl rfl (by decide) (by decide) rfl rfl rfl (by decide +kernel) (by decide +kernel) (by decide +kernel) (by decide +kernel) (by decide +kernel) (fun env => rfl)
def sp_is_variable : SpD := fun ds W Q _ => ∃ d a, ds = [d] ∧ tyOf W d = some a ∧ Q (.bl (isIntD d)) W
theorem len_is_variable : ∀ ds W Q E, sp_is_variable ds W Q E → ds.length = 1 := by
  rintro ds W Q E ⟨d, a, rfl, _⟩; rfl
theorem isIntD_ty {W : Wd} {d : D} {a : String} (h : tyOf W d = some a) : isIntD d = isiB a "int" := by
  unfold tyOf at h
  split at h
  all_goals first | (cases h; rfl) | skip
  · split at h <;> cases h <;> rfl
  · cases h

abbrev n_is_variable : List Str := ["term"]
theorem sd_is_variable (x0 : D) : startD n_is_variable [x0] = [some x0] := rfl
def a_is_variable  : AS := aRet (aCB (dIsi) (aCons (aVar 0) (aCons (aC (.ty "int")) (aNil))))
theorem rd_is_variable {ds : List D} {W : Wd} {Q : DQ} {E : DX} (h : sp_is_variable ds W Q E) : a_is_variable (EN Q) (startD n_is_variable ds) W := by
  obtain ⟨d, a, rfl, e, q⟩ := h
  rw [isIntD_ty e] at q
  unfold a_is_variable
  walk_at "rd"
  exact q
theorem gc_isvT {t : Trm} {W : Wd} {Q : DQ} {E : DX} (h : Q (.bl t.isVar) W) : sp_is_variable [t.d] W Q E := ⟨_, _, rfl, tyOf_d W t, by rw [isIntD_d]; exact h⟩
theorem gc_isvI {v : Int} {W : Wd} {Q : DQ} {E : DX} (h : Q (.bl true) W) : sp_is_variable [.int v] W Q E := ⟨_, _, rfl, rfl, h⟩
theorem gc_isvA {ds : List D} {W : Wd} {Q : DQ} {E : DX} (h : Q (.bl false) W) : sp_is_variable [.tup ds] W Q E := ⟨_, _, rfl, rfl, h⟩
local macro_rules | `(tactic| walk_at "rdx") => `(tactic| first | with_reducible refine gc_isvI ?_ | with_reducible refine gc_isvA ?_ | with_reducible refine gc_isvT ?_)

theorem sc_is_variable : FnScope ["term"] ["term"] (defScope s_is_variable) := ⟨rfl, rfl, rfl, by decide +kernel, rfl, by decide +kernel, by decide +kernel⟩
theorem ok_is_variable {P : Program} {w : World} {K : PySem.W.Frag} {mg : Str → Option Value} {base : Heap} {k : Nat}  (F : Df K mg "is_variable" "is_variable" s_is_variable) (z_isinstance : mg "isinstance" = none) (z_int : mg "int" = none) : Fk P w K mg base CX0 (k + 1) "is_variable" ["term"] (sp_is_variable) := by
  have sc := sc_is_variable
  exact okF F sc (fun _ _ _ _ _ _ us hl => match us, hl with | [_], _ => rfl) len_is_variable fun cdv A outer s H E G f hr hgd => ⟨_, a_is_variable ,
    dss_one (ds_ret (de_callB call_isi sc_isi (by rfl) z_isinstance (by decide +kernel) (da_cons (dv 0) (da_cons (de_bty (by rfl) z_int (by decide +kernel)) (da_nil))))),
    fun ds W QD ED h => rd_is_variable h⟩
def sp_size (n : Nat) : SpD := fun ds W Q _ => ∃ t : Trm, ds = [t.d] ∧ t.depth ≤ n ∧ Q (.int t.size) W
theorem len_size {n : Nat} : ∀ ds W Q E, sp_size n ds W Q E → ds.length = 1 := by
  rintro ds W Q E ⟨t, rfl, _⟩; rfl
theorem none_size : ∀ ds W Q E, ¬ sp_size 0 ds W Q E := fun ds W Q E ⟨t, _, h, _⟩ => by have := t.depth_pos; omega

abbrev n_size : List Str := ["term", "total", "argument"]
theorem sd_size (x0 : D) : startD n_size [x0] = [some x0, none, none] := rfl
def b1_size (n : Nat) : AS := aAug 1 (aCall (sp_size n) [] ED0 (aCons (aVar 2) (aNil))) (dI0 fun i j => .int (i + j))
def a_size (n : Nat) : AS := aSeq (aIfS (aTest (aCall (sp_is_variable) [] ED0 (aCons (aVar 0) (aNil)))) (aRet (aC (.int 1))) (aNext)) (aSeq (aAsg (aC (.int 1)) (agName 1)) (aSeq (aFor (aiSeq (aSl (dSl false) (aVar 0) (aPart (aC (.int 1))) (aNoPart))) (agName 2) (b1_size n)) (aRet (aVar 1))))
theorem rd_size {n : Nat} {ds : List D} {W : Wd} {Q : DQ} {E : DX} (h : sp_size (n + 1) ds W Q E) : a_size n (EN Q) (startD n_size ds) W := by
  obtain ⟨t, rfl, hd, q⟩ := h
  unfold a_size
  cases t with
  | var v => rw [Trm.d_var]; walk_at "rd"; exact q
  | app f ts =>
    rw [Trm.d_app]
    walk_at "rd"
    have hd := depth_app_le.mp hd
    refine forL_inv (items := ts.map Trm.d) (fun ds δ W' => ∃ (us : List Trm) (x : Option D) (s : Nat), W' = W ∧ ds = us.map Trm.d ∧ δ = [some (.tup (.str f :: ts.map Trm.d)), some (.int s), x] ∧ (∀ t ∈ us, t.depth ≤ n) ∧ s + Trm.sizes us = 1 + Trm.sizes ts) ⟨ts, none, 1, rfl, rfl, rfl, hd, rfl⟩ (fun _ _ _ _ => trivial) ?_ ?_
    · rintro d ds δ W' N ⟨us, x, s, rfl, e, rfl, hu, hg⟩ k
      cases us with
      | nil => cases e
      | cons u us =>
        rw [List.map_cons] at e
        cases e
        rw [Trm.sizes] at hg
        unfold b1_size
        walk_at "rd"
        refine ⟨u, rfl, hu u List.mem_cons_self, ?_⟩
        walk_at "rd"
        have e3 : (s : Int) + u.size = ((s + u.size : Nat) : Int) := by omega
        rw [e3]
        refine k _ _ ⟨us, _, (s + u.size), rfl, rfl, rfl, fun t ht => hu t (List.mem_cons_of_mem _ ht), ?_⟩
        omega
    · rintro δ W' ⟨us, x, s, rfl, e, rfl, hu, hg⟩
      cases us with
      | cons u us => cases e
      | nil =>
        walk_at "rd"
        rw [show (Trm.app f ts).size = 1 + Trm.sizes ts from rfl, ← hg] at q
        exact q
theorem gc_size {n : Nat} {t : Trm} {W : Wd} {Q : DQ} {E : DX} (hd : t.depth ≤ n) (h : Q (.int t.size) W) : sp_size n [t.d] W Q E := ⟨t, rfl, hd, h⟩
local macro_rules | `(tactic| walk_at "rdx") => `(tactic| ((with_reducible refine' gc_size ?hd ?_); (case hd => first | assumption | omega)))

theorem sc_size : FnScope ["term", "total", "argument"] ["term"] (defScope s_size) := ⟨rfl, rfl, rfl, by decide +kernel, rfl, by decide +kernel, by decide +kernel⟩
theorem ok_size {P : Program} {w : World} {K : PySem.W.Frag} {mg : Str → Option Value} {base : Heap} {k : Nat} (n : Nat) (F : Df K mg "size" "size" s_size) (g_is_variable : Fk P w K mg base CX0 k "is_variable" ["term"] (sp_is_variable)) (g_size : Fk P w K mg base CX0 k "size" ["term"] (sp_size n)) : Fk P w K mg base CX0 (k + 1) "size" ["term"] (sp_size (n + 1)) := by
  have sc := sc_size
  exact okF F sc (fun _ _ _ _ _ _ us hl => match us, hl with | [_], _ => rfl) len_size fun cdv A outer s H E G f hr hgd => ⟨_, a_size n,
    dss_cons (ds_if (dt_val (de_fn g_is_variable hr hgd (da_cons (dv 0) (da_nil)))) (dss_one (ds_ret (de_int))) (dss_nil)) (dss_cons (ds_set (i := 1) sc.nd rfl (.inl rfl) (de_int)) (dss_cons (ds_for PassesOwn.never rfl (di_seq (de_slice sl_all sl_sim (dv 0) (do_some (de_int)) (do_none))) (dg_name (i := 2) sc.nd rfl (.inl rfl)) (dss_one (ds_aug (i := 1) sc.nd rfl (.inl rfl) (de_fn g_size hr hgd (da_cons (dv 2) (da_nil))) ip_add sr_ip))) (dss_one (ds_ret (dv 1))))),
    fun ds W QD ED h => rd_size h⟩
theorem all_size {P : Program} {w : World} {K : PySem.W.Frag} {mg : Str → Option Value} {base : Heap} {k : Nat} (F : Df K mg "size" "size" s_size) (g_is_variable : Fk P w K mg base CX0 k "is_variable" ["term"] (sp_is_variable)) : ∀ n : Nat, Fk P w K mg base CX0 (k + n) "size" ["term"] (sp_size n)
  | 0 => (Fk.none F none_size (fun _ _ _ _ _ _ us hl => match us, hl with | [_], _ => rfl)).mono (Nat.zero_le _)
  | n + 1 => ok_size n F  (g_is_variable.mono (Nat.le_add_right _ _)) (all_size F  g_is_variable n)
def sp_depth (n : Nat) : SpD := fun ds W Q _ => ∃ t : Trm, ds = [t.d] ∧ t.depth ≤ n ∧ Q (.int t.depth) W
theorem len_depth {n : Nat} : ∀ ds W Q E, sp_depth n ds W Q E → ds.length = 1 := by
  rintro ds W Q E ⟨t, rfl, _⟩; rfl
theorem none_depth : ∀ ds W Q E, ¬ sp_depth 0 ds W Q E := fun ds W Q E ⟨t, _, h, _⟩ => by have := t.depth_pos; omega

abbrev n_depth : List Str := ["term", "deepest", "argument"]
theorem sd_depth (x0 : D) : startD n_depth [x0] = [some x0, none, none] := rfl
def b1_depth (n : Nat) : AS := aAsg (aCB (dMax2) (aCons (aVar 1) (aCons (aCall (sp_depth n) [] ED0 (aCons (aVar 2) (aNil))) (aNil)))) (agName 1)
def a_depth (n : Nat) : AS := aSeq (aIfS (aTest (aCall (sp_is_variable) [] ED0 (aCons (aVar 0) (aNil)))) (aRet (aC (.int 1))) (aNext)) (aSeq (aAsg (aC (.int 0)) (agName 1)) (aSeq (aFor (aiSeq (aSl (dSl false) (aVar 0) (aPart (aC (.int 1))) (aNoPart))) (agName 2) (b1_depth n)) (aRet (aOp (dAdd false) (aC (.int 1)) (aVar 1)))))
theorem rd_depth {n : Nat} {ds : List D} {W : Wd} {Q : DQ} {E : DX} (h : sp_depth (n + 1) ds W Q E) : a_depth n (EN Q) (startD n_depth ds) W := by
  obtain ⟨t, rfl, hd, q⟩ := h
  unfold a_depth
  cases t with
  | var v => rw [Trm.d_var]; walk_at "rd"; exact q
  | app f ts =>
    rw [Trm.d_app]
    walk_at "rd"
    have hd := depth_app_le.mp hd
    refine forL_inv (items := ts.map Trm.d) (fun ds δ W' => ∃ (us : List Trm) (x : Option D) (s : Nat), W' = W ∧ ds = us.map Trm.d ∧ δ = [some (.tup (.str f :: ts.map Trm.d)), some (.int s), x] ∧ (∀ t ∈ us, t.depth ≤ n) ∧ max s (Trm.depths us) = Trm.depths ts) ⟨ts, none, 0, rfl, rfl, rfl, hd, by simp⟩ (fun _ _ _ _ => trivial) ?_ ?_
    · rintro d ds δ W' N ⟨us, x, s, rfl, e, rfl, hu, hg⟩ k
      cases us with
      | nil => cases e
      | cons u us =>
        rw [List.map_cons] at e
        cases e
        rw [Trm.depths] at hg
        unfold b1_depth
        walk_at "rd"
        refine ⟨u, rfl, hu u List.mem_cons_self, ?_⟩
        walk_at "rd"
        have e3 : (if (u.depth : Int) > s then (u.depth : Int) else s) = ((max s u.depth : Nat) : Int) := by split <;> omega
        rw [e3]
        refine k _ _ ⟨us, _, (max s u.depth), rfl, rfl, rfl, fun t ht => hu t (List.mem_cons_of_mem _ ht), ?_⟩
        omega
    · rintro δ W' ⟨us, x, s, rfl, e, rfl, hu, hg⟩
      cases us with
      | cons u us => cases e
      | nil =>
        walk_at "rd"
        have hg : s = Trm.depths ts := by simpa [Trm.depths] using hg
        rw [show (Trm.app f ts).depth = 1 + Trm.depths ts from rfl, ← hg] at q
        have e3 : (1 : Int) + s = ((1 + s : Nat) : Int) := by omega
        rw [e3]
        exact q
theorem gc_depth {n : Nat} {t : Trm} {W : Wd} {Q : DQ} {E : DX} (hd : t.depth ≤ n) (h : Q (.int t.depth) W) : sp_depth n [t.d] W Q E := ⟨t, rfl, hd, h⟩
local macro_rules | `(tactic| walk_at "rdx") => `(tactic| ((with_reducible refine' gc_depth ?hd ?_); (case hd => first | assumption | omega)))

theorem sc_depth : FnScope ["term", "deepest", "argument"] ["term"] (defScope s_depth) := ⟨rfl, rfl, rfl, by decide +kernel, rfl, by decide +kernel, by decide +kernel⟩
theorem ok_depth {P : Program} {w : World} {K : PySem.W.Frag} {mg : Str → Option Value} {base : Heap} {k : Nat} (n : Nat) (F : Df K mg "depth" "depth" s_depth) (g_is_variable : Fk P w K mg base CX0 k "is_variable" ["term"] (sp_is_variable)) (z_max : mg "max" = none) (g_depth : Fk P w K mg base CX0 k "depth" ["term"] (sp_depth n)) : Fk P w K mg base CX0 (k + 1) "depth" ["term"] (sp_depth (n + 1)) := by
  have sc := sc_depth
  exact okF F sc (fun _ _ _ _ _ _ us hl => match us, hl with | [_], _ => rfl) len_depth fun cdv A outer s H E G f hr hgd => ⟨_, a_depth n,
    dss_cons (ds_if (dt_val (de_fn g_is_variable hr hgd (da_cons (dv 0) (da_nil)))) (dss_one (ds_ret (de_int))) (dss_nil)) (dss_cons (ds_set (i := 1) sc.nd rfl (.inl rfl) (de_int)) (dss_cons (ds_for PassesOwn.never rfl (di_seq (de_slice sl_all sl_sim (dv 0) (do_some (de_int)) (do_none))) (dg_name (i := 2) sc.nd rfl (.inl rfl)) (dss_one (ds_set (i := 1) sc.nd rfl (.inl rfl) (de_callB (call_max2 rfl) sc_max2 (by rfl) z_max (by decide +kernel) (da_cons (dv 1) (da_cons (de_fn g_depth hr hgd (da_cons (dv 2) (da_nil))) (da_nil))))))) (dss_one (ds_ret (de_op (op_addA) sr_add (de_int) (dv 1)))))),
    fun ds W QD ED h => rd_depth h⟩
theorem all_depth {P : Program} {w : World} {K : PySem.W.Frag} {mg : Str → Option Value} {base : Heap} {k : Nat} (F : Df K mg "depth" "depth" s_depth) (g_is_variable : Fk P w K mg base CX0 k "is_variable" ["term"] (sp_is_variable)) (z_max : mg "max" = none) : ∀ n : Nat, Fk P w K mg base CX0 (k + n) "depth" ["term"] (sp_depth n)
  | 0 => (Fk.none F none_depth (fun _ _ _ _ _ _ us hl => match us, hl with | [_], _ => rfl)).mono (Nat.zero_le _)
  | n + 1 => ok_depth n F  (g_is_variable.mono (Nat.le_add_right _ _)) z_max (all_depth F  g_is_variable z_max n)
def sp_check_size : SpD := fun ds W Q E => ∃ t : Trm, ds = [t.d] ∧ t.depth ≤ 140 ∧ (¬ (t.depth > 30 ∨ t.size > 400) → Q .non W) ∧ (t.depth > 30 ∨ t.size > 400 → E "TooLarge" [] W)
theorem len_check_size : ∀ ds W Q E, sp_check_size ds W Q E → ds.length = 1 := by
  rintro ds W Q E ⟨_, rfl, _⟩; rfl
theorem gc_check_size {t : Trm} {W : Wd} {Q : DQ} {E : DX} (h1 : t.depth ≤ 140) (k : ¬ (t.depth > 30 ∨ t.size > 400) → Q .non W) (k' : t.depth > 30 ∨ t.size > 400 → E "TooLarge" [] W) : sp_check_size [t.d] W Q E := ⟨t, rfl, h1, k, k'⟩

abbrev n_check_size : List Str := ["term"]
theorem sd_check_size (x0 : D) : startD n_check_size [x0] = [some x0] := rfl
def a_check_size  (WD : AW) : AS := aIfS (aOr (aTest (aOp (dI0 fun i j => .bl (decide (j < i))) (aCall (sp_depth 140) [] ED0 (aCons (aVar 0) (aNil))) (aC (.int 30)))) (aTest (aOp (dI0 fun i j => .bl (decide (j < i))) (aCall (sp_size 140) [] ED0 (aCons (aVar 0) (aNil))) (aC (.int 400))))) (aRaise "TooLarge" WD) (aNext)
theorem rd_check_size {ds : List D} {W : Wd} {Q : DQ} {E : DX} (h : sp_check_size ds W Q E) : a_check_size (fun _ => E) (EN Q) (startD n_check_size ds) W := by
  obtain ⟨t, rfl, hd, q, q'⟩ := h
  unfold a_check_size
  walk_at "rd"
  by_cases h1 : t.depth > 30
  · rw [show decide ((30 : Int) < (t.depth : Int)) = true from decide_eq_true (by omega)]
    walk_at "rd"
    exact q' (.inl h1)
  · rw [show decide ((30 : Int) < (t.depth : Int)) = false from decide_eq_false (by omega)]
    walk_at "rd"
    by_cases h2 : t.size > 400
    · rw [show decide ((400 : Int) < (t.size : Int)) = true from decide_eq_true (by omega)]
      walk_at "rd"
      exact q' (.inr h2)
    · rw [show decide ((400 : Int) < (t.size : Int)) = false from decide_eq_false (by omega)]
      walk_at "rd"
      exact q (by omega)

theorem sc_check_size : FnScope ["term"] ["term"] (defScope s_check_size) := ⟨rfl, rfl, rfl, by decide +kernel, rfl, by decide +kernel, by decide +kernel⟩
theorem ok_check_size {P : Program} {w : World} {K : PySem.W.Frag} {mg : Str → Option Value} {base : Heap} {k : Nat}  (F : DfB K (He.ga K "check_size") "check_size" "check_size" s_check_size [] []) (g_depth : Fk P w K mg base CX0 k "depth" ["term"] (sp_depth 140)) (c_MAX_DEPTH : ∃ t, mg "MAX_DEPTH" = some (.int 30 t)) (g_size : Fk P w K mg base CX0 k "size" ["term"] (sp_size 140)) (c_MAX_SIZE : ∃ t, mg "MAX_SIZE" = some (.int 400 t)) (ex_TooLarge : ExcK K mg "TooLarge") : FkB P w K mg base (L2.CX P w) (k + 1) (He.ga K "check_size") "check_size" "check_size" s_check_size [] [] ["term"] (sp_check_size) := by
  have sc := sc_check_size
  exact okX (a := a_check_size ) F sc len_check_size (fun cdv A outer s H E G WD hr hgd htk hpo hl => ⟨_,
    dss_one (ds_if (DW.dt (dw_or (dt_cmp (op_gt) sr_b0 (de_fn g_depth hr hgd (da_cons (dv 0) (da_nil))) (de_gint (by rfl) c_MAX_DEPTH) (nomark _)) (dw_or1 (dt_cmp (op_gt) sr_b0 (de_fn g_size hr hgd (da_cons (dv 0) (da_nil))) (de_gint (by rfl) c_MAX_SIZE) (nomark _))))) (dss_one (ds_raise0 K rfl htk hl ex_TooLarge)) (dss_nil))⟩)
    (fun ds W QD ED h => rd_check_size h)
def sp_symbols (n : Nat) : SpD := fun ds W Q _ => ∃ t : Trm, ds = [t.d] ∧ t.depth ≤ n ∧ t.size ≤ 1000000 ∧ Q (.lst (t.syms.map Sy.d)) W
theorem len_symbols {n : Nat} : ∀ ds W Q E, sp_symbols n ds W Q E → ds.length = 1 := by
  rintro ds W Q E ⟨t, rfl, _⟩; rfl
theorem none_symbols : ∀ ds W Q E, ¬ sp_symbols 0 ds W Q E := fun ds W Q E ⟨t, _, h, _⟩ => by have := t.depth_pos; omega
theorem gc_symbols {n : Nat} {t : Trm} {W : Wd} {Q : DQ} {E : DX} (h1 : t.depth ≤ n) (h2 : t.size ≤ 1000000) (k : Q (.lst (t.syms.map Sy.d)) W) : sp_symbols n [t.d] W Q E := ⟨t, rfl, h1, h2, k⟩

abbrev n_symbols : List Str := ["term", "found", "argument"]
theorem sd_symbols (x0 : D) : startD n_symbols [x0] = [some x0, none, none] := rfl
def b1_symbols (n : Nat) : AS := aDrop (aBM tyL dExtend (aVar 1) (aCons (aCall (sp_symbols n) [] ED0 (aCons (aVar 2) (aNil))) (aNil)))
def a_symbols (n : Nat) : AS := aSeq (aIfS (aTest (aCall (sp_is_variable) [] ED0 (aCons (aVar 0) (aNil)))) (aRet (aLst false (aCons (aVar 0) (aNil)))) (aNext)) (aSeq (aAsg (aLst true (aCons (aOp dIx (aVar 0) (aC (.int 0))) (aNil))) (agName 1)) (aSeq (aFor (aiSeq (aSl (dSl false) (aVar 0) (aPart (aC (.int 1))) (aNoPart))) (agName 2) (b1_symbols n)) (aRet (aVarF 1))))
theorem rd_symbols {n : Nat} {ds : List D} {W : Wd} {Q : DQ} {E : DX} (h : sp_symbols (n + 1) ds W Q E) : a_symbols n (EN Q) (startD n_symbols ds) W := by
  obtain ⟨t, rfl, hd, hz, q⟩ := h
  unfold a_symbols
  cases t with
  | var v =>
    rw [Trm.d_var]
    walk_at "rd"
    exact q
  | app f ts =>
    have hd := depth_app_le.mp hd
    have hsl := syms_len (.app f ts)
    rw [Trm.d_app]
    walk_at "rd"
    intro p hp
    walk_at "rd"
    refine forL_inv (items := ts.map Trm.d) (fun ds δ W' => ∃ (us : List Trm) (acc : List Sy) (x : Option D), W' = W.set p (.lst (acc.map Sy.d)) ∧ ds = us.map Trm.d ∧ (∀ u ∈ us, u ∈ ts) ∧ acc ++ Trm.symss us = (Trm.app f ts).syms ∧
      δ = [some (.tup (.str f :: ts.map Trm.d)), some (.ptr p), x]) ⟨ts, [.f f], none, rfl, rfl, fun _ h => h, rfl, rfl⟩ (fun _ _ _ _ => trivial) ?_ ?_
    · rintro d ds δ W' N ⟨us, acc, x, rfl, e, hu, ha, rfl⟩ kk
      cases us with
      | nil => cases e
      | cons u us =>
        rw [List.map_cons] at e
        cases e
        have hu1 := hu u List.mem_cons_self
        have hlen := congrArg List.length ha
        rw [List.length_append, Trm.symss, List.length_append, hsl] at hlen
        unfold b1_symbols
        walk_at "rd"
        refine gc_symbols (hd u hu1) (by have := size_mem hu1; rw [Trm.size] at hz; omega) ?_
        walk_at "rd"
        refine go_extend (Wd.set_same ..) (es := u.syms.map Sy.d) rfl (by rw [List.length_map, List.length_map, sizeLine_val]; omega) ?_
        rw [Wd.set_set, ← List.map_append]
        walk_at "rd"
        exact kk _ _ ⟨us, acc ++ u.syms, _, rfl, rfl, fun v hv => hu v (List.mem_cons_of_mem _ hv), by rw [← ha, Trm.symss, List.append_assoc], rfl⟩
    · rintro δ W' ⟨us, acc, x, rfl, e, hu, ha, rfl⟩
      cases us with
      | cons _ _ => cases e
      | nil =>
        rw [Trm.symss, List.append_nil] at ha
        rw [ha]
        walk_at "rd"
        exact q

theorem sc_symbols : FnScope ["term", "found", "argument"] ["term"] (defScope s_symbols) := ⟨rfl, rfl, rfl, by decide +kernel, rfl, by decide +kernel, by decide +kernel⟩
theorem ok_symbols {P : Program} {w : World} {K : PySem.W.Frag} {mg : Str → Option Value} {base : Heap} {k : Nat} (n : Nat) (F : Df K mg "symbols" "symbols" s_symbols) (g_is_variable : Fk P w K mg base CX0 k "is_variable" ["term"] (sp_is_variable)) (g_symbols : Fk P w K mg base CX0 k "symbols" ["term"] (sp_symbols n)) : Fk P w K mg base CX0 (k + 1) "symbols" ["term"] (sp_symbols (n + 1)) := by
  have sc := sc_symbols
  exact okF F sc (fun _ _ _ _ _ _ us hl => match us, hl with | [_], _ => rfl) len_symbols fun cdv A outer s H E G f hr hgd => ⟨_, a_symbols n,
    dss_cons (ds_if (dt_val (de_fn g_is_variable hr hgd (da_cons (dv 0) (da_nil)))) (dss_one (ds_ret (de_lst false (da_cons (dv 0) (da_nil))))) (dss_nil)) (dss_cons (ds_set (i := 1) sc.nd rfl (.inl rfl) (de_lst true (da_cons (de_ix (ix_all (hu_of hr)) sr_ix (dv 0) (de_int)) (da_nil)))) (dss_cons (ds_for PassesOwn.never rfl (di_seq (de_slice sl_all sl_sim (dv 0) (do_some (de_int)) (do_none))) (dg_name (i := 2) sc.nd rfl (.inl rfl)) (dss_one (ds_expr (de_extend (dv 1) (da_cons (de_fn g_symbols hr hgd (da_cons (dv 2) (da_nil))) (da_nil)))))) (dss_one (ds_ret (dvF 1))))),
    fun ds W QD ED h => rd_symbols h⟩
theorem all_symbols {P : Program} {w : World} {K : PySem.W.Frag} {mg : Str → Option Value} {base : Heap} {k : Nat} (F : Df K mg "symbols" "symbols" s_symbols) (g_is_variable : Fk P w K mg base CX0 k "is_variable" ["term"] (sp_is_variable)) : ∀ n : Nat, Fk P w K mg base CX0 (k + n) "symbols" ["term"] (sp_symbols n)
  | 0 => (Fk.none F none_symbols (fun _ _ _ _ _ _ us hl => match us, hl with | [_], _ => rfl)).mono (Nat.zero_le _)
  | n + 1 => ok_symbols n F  (g_is_variable.mono (Nat.le_add_right _ _)) (all_symbols F  g_is_variable n)
def sp_variables : SpD := fun ds W Q _ => ∃ t : Trm, ds = [t.d] ∧ t.depth ≤ 140 ∧ t.size ≤ 1000000 ∧ Q (.lst (t.vars.map .int)) W
theorem len_variables : ∀ ds W Q E, sp_variables ds W Q E → ds.length = 1 := by
  rintro ds W Q E ⟨t, rfl, _⟩; rfl
theorem gc_variables {t : Trm} {W : Wd} {Q : DQ} {E : DX} (h1 : t.depth ≤ 140) (h2 : t.size ≤ 1000000) (k : Q (.lst (t.vars.map .int)) W) : sp_variables [t.d] W Q E := ⟨t, rfl, h1, h2, k⟩

abbrev n_variables : List Str := ["term", "found", "symbol"]
theorem sd_variables (x0 : D) : startD n_variables [x0] = [some x0, none, none] := rfl
def b1_variables  : AS := aIfS (aAnd (aTest (aCall (sp_is_variable) [] ED0 (aCons (aVar 2) (aNil)))) (aTest (aOp (dIn true) (aVar 2) (aVar 1)))) (aDrop (aBM tyL dAppend (aVar 1) (aCons (aVar 2) (aNil)))) (aNext)
def a_variables  : AS := aSeq (aAsg (aLst true (aNil)) (agName 1)) (aSeq (aFor (aiSeq (aCall (sp_symbols 140) [] ED0 (aCons (aVar 0) (aNil)))) (agName 2) (b1_variables)) (aRet (aVarF 1)))
theorem rd_variables {ds : List D} {W : Wd} {Q : DQ} {E : DX} (h : sp_variables ds W Q E) : a_variables (EN Q) (startD n_variables ds) W := by
  obtain ⟨t, rfl, hd, hz, q⟩ := h
  have hsl := syms_len t
  unfold a_variables
  walk_at "rd"
  intro p hp
  walk_at "rd"
  refine gc_symbols hd hz ?_
  walk_at "rd"
  refine forL_inv (fun ds δ W' => ∃ (us : List Sy) (acc : List Int) (x : Option D), W' = W.set p (.lst (acc.map .int)) ∧ ds = us.map Sy.d ∧ nub acc (us.filterMap Sy.int?) = t.vars ∧ acc.length + us.length ≤ 1000000 ∧
    δ = [some t.d, some (.ptr p), x]) ⟨t.syms, [], none, rfl, rfl, rfl, by simp; omega, rfl⟩ (fun _ _ _ _ => trivial) ?_ ?_
  · rintro d ds δ W' N ⟨us, acc, x, rfl, e, hn, hl, rfl⟩ kk
    cases us with
    | nil => cases e
    | cons u us =>
      rw [List.map_cons] at e
      cases e
      rw [List.length_cons] at hl
      unfold b1_variables
      cases u with
      | f y =>
        unfold Sy.d
        walk_at "rd"
        refine ⟨_, _, rfl, rfl, ?_⟩
        walk_at "rd"
        exact kk _ _ ⟨us, acc, _, rfl, rfl, hn, by omega, rfl⟩
      | v y =>
        rw [List.filterMap_cons] at hn
        simp only [Sy.int?] at hn
        rw [nub] at hn
        unfold Sy.d
        walk_at "rd"
        refine go_ninIp (Wd.set_same ..) ?_
        walk_at "rd"
        by_cases hm : y ∈ acc
        · rw [if_pos hm] at hn
          rw [decide_eq_true hm]
          walk_at "rd"
          exact kk _ _ ⟨us, acc, _, rfl, rfl, hn, by omega, rfl⟩
        · rw [if_neg hm] at hn
          rw [decide_eq_false hm]
          walk_at "rd"
          exact kk _ _ ⟨us, acc ++ [y], _, by rw [List.map_append]; rfl, rfl, hn, by rw [List.length_append, List.length_singleton]; omega, rfl⟩
  · rintro δ W' ⟨us, acc, x, rfl, e, hn, hl, rfl⟩
    cases us with
    | cons _ _ => cases e
    | nil =>
      rw [List.filterMap_nil, nub] at hn
      rw [hn]
      walk_at "rd"
      exact q

theorem sc_variables : FnScope ["term", "found", "symbol"] ["term"] (defScope s_variables) := ⟨rfl, rfl, rfl, by decide +kernel, rfl, by decide +kernel, by decide +kernel⟩
theorem ok_variables {P : Program} {w : World} {K : PySem.W.Frag} {mg : Str → Option Value} {base : Heap} {k : Nat}  (F : Df K mg "variables" "variables" s_variables) (g_symbols : Fk P w K mg base CX0 k "symbols" ["term"] (sp_symbols 140)) (g_is_variable : Fk P w K mg base CX0 k "is_variable" ["term"] (sp_is_variable)) : Fk P w K mg base CX0 (k + 1) "variables" ["term"] (sp_variables) := by
  have sc := sc_variables
  exact okF F sc (fun _ _ _ _ _ _ us hl => match us, hl with | [_], _ => rfl) len_variables fun cdv A outer s H E G f hr hgd => ⟨_, a_variables ,
    dss_cons (ds_set (i := 1) sc.nd rfl (.inl rfl) (de_lst true (da_nil))) (dss_cons (ds_for PassesOwn.never rfl (di_seq (de_fn g_symbols hr hgd (da_cons (dv 0) (da_nil)))) (dg_name (i := 2) sc.nd rfl (.inl rfl)) (dss_one (ds_if (DW.dt (dw_and (dt_val (de_fn g_is_variable hr hgd (da_cons (dv 2) (da_nil)))) (dw_and1 (dt_cmp (op_notInA (hu151 hr)) sr_in (dv 2) (dv 1) (by rfl))))) (dss_one (ds_expr (de_append (dv 1) (da_cons (dv 2) (da_nil))))) (dss_nil)))) (dss_one (ds_ret (dvF 1)))),
    fun ds W QD ED h => rd_variables h⟩
def abM : MO := .obj "AnswerBook" [("entries", .lst [])]
def sp_AnswerBook___init__ : SpD := fun ds W Q _ => ∃ p, ds = [.ptr p] ∧ W p = some (.obj "AnswerBook" []) ∧ Q .non (W.set p abM)
theorem len_AnswerBook___init__ : ∀ ds W Q E, sp_AnswerBook___init__ ds W Q E → ds.length = 1 := by
  rintro ds W Q E ⟨_, rfl, _⟩; rfl
theorem gc_AnswerBook {p : Addr} {W : Wd} {Q : DQ} {E : DX} (hw : W p = some (.obj "AnswerBook" [])) (k : Q .non (W.set p abM)) : sp_AnswerBook___init__ [.ptr p] W Q E := ⟨p, rfl, hw, k⟩

abbrev n_AnswerBook___init__ : List Str := ["self"]
theorem sd_AnswerBook___init__ (x0 : D) : startD n_AnswerBook___init__ [x0] = [some x0] := rfl
def a_AnswerBook___init__  : AS := aFldS "AnswerBook" "entries" (aVar 0) (aLst false (aNil))
theorem rd_AnswerBook___init__ {ds : List D} {W : Wd} {Q : DQ} {E : DX} (h : sp_AnswerBook___init__ ds W Q E) : a_AnswerBook___init__ (EN Q) (startD n_AnswerBook___init__ ds) W := by
  obtain ⟨p, rfl, hw, q⟩ := h
  unfold a_AnswerBook___init__
  walk_at "rd"
  refine go_fldP (fs := []) (fs' := [("entries", .lst [])]) hw (by simp) rfl ?_
  exact q

theorem sc_AnswerBook___init__ : FnScope ["self"] ["self"] (defScope s_AnswerBook___init__) := ⟨rfl, rfl, rfl, by decide +kernel, rfl, by decide +kernel, by decide +kernel⟩
theorem ok_AnswerBook___init__ {P : Program} {w : World} {K : PySem.W.Frag} {mg : Str → Option Value} {base : Heap} {k : Nat}  (F : DfB K (He.ma K (He.ga K "AnswerBook") "__init__") "__init__" "AnswerBook.__init__" s_AnswerBook___init__ [] []) (k_AnswerBook : Cls K (He.ga K "AnswerBook")) (a_AnswerBook_entries : NoAttr K (He.ga K "AnswerBook") "entries") : FkB P w K mg base CX0 (k + 1) (He.ma K (He.ga K "AnswerBook") "__init__") "__init__" "AnswerBook.__init__" s_AnswerBook___init__ [] [] ["self"] (sp_AnswerBook___init__) := by
  have sc := sc_AnswerBook___init__
  exact okB F sc len_AnswerBook___init__ fun cdv A outer s H E G hr hgd => ⟨_, a_AnswerBook___init__ ,
    dss_one (ds_fldK K "AnswerBook" k_AnswerBook a_AnswerBook_entries (dv 0) (de_lst false (da_nil))),
    fun ds W QD ED h => rd_AnswerBook___init__ h⟩
def sp_AnswerBook_dropped : SpD := fun ds W Q _ => ∃ p x, ds = [.ptr p, x] ∧ W p = some abM ∧ Q .non W
theorem len_AnswerBook_dropped : ∀ ds W Q E, sp_AnswerBook_dropped ds W Q E → ds.length = 2 := by
  rintro ds W Q E ⟨_, _, rfl, _⟩; rfl
theorem gc_book_dropped {p : Addr} {x : D} {W : Wd} {Q : DQ} {E : DX} (hw : W p = some abM) (k : Q .non W) : sp_AnswerBook_dropped [.ptr p, x] W Q E := ⟨p, x, rfl, hw, k⟩

abbrev n_AnswerBook_dropped : List Str := ["self", "name", "entry"]
theorem sd_AnswerBook_dropped (x0 x1 : D) : startD n_AnswerBook_dropped [x0, x1] = [some x0, some x1, none] := rfl
def e1_AnswerBook_dropped  : AE := aNevE
def t1_AnswerBook_dropped  : AT := aNevT
def a_AnswerBook_dropped  : AS := aFldS "AnswerBook" "entries" (aVar 0) (aLc false (aiSeq (aFld "AnswerBook" "entries" (aVar 0))) (agName 2) (t1_AnswerBook_dropped) (e1_AnswerBook_dropped) [2])
theorem rd_AnswerBook_dropped {ds : List D} {W : Wd} {Q : DQ} {E : DX} (h : sp_AnswerBook_dropped ds W Q E) : a_AnswerBook_dropped (EN Q) (startD n_AnswerBook_dropped ds) W := by
  obtain ⟨p, x, rfl, hw, q⟩ := h
  unfold a_AnswerBook_dropped
  walk_at "rd"
  refine lcG_inv (fun ds acc W' => W' = W ∧ ds = [] ∧ acc = []) ⟨rfl, rfl, rfl⟩ (by rw [sizeLine_val]; simp) (fun _ _ _ _ _ _ => trivial) ?_ ?_
  · rintro d ds acc W' L Q' P ⟨_, e, _⟩
    cases e
  · rintro acc W' ⟨rfl, _, rfl⟩
    rw [if_neg (by decide)]
    walk_at "rd"
    refine go_fldP (fs := [("entries", .lst [])]) (fs' := [("entries", .lst [])]) hw (by simp) rfl ?_
    rw [show W'.set p (.obj "AnswerBook" [("entries", .lst [])]) = W' from Wd.set_self hw]
    exact q

theorem sc_AnswerBook_dropped : FnScope ["self", "name", "entry"] ["self", "name"] (defScope s_AnswerBook_dropped) := ⟨rfl, rfl, rfl, by decide +kernel, rfl, by decide +kernel, by decide +kernel⟩
theorem ok_AnswerBook_dropped {P : Program} {w : World} {K : PySem.W.Frag} {mg : Str → Option Value} {base : Heap} {k : Nat}  (F : DfB K (He.ma K (He.ga K "AnswerBook") "dropped") "dropped" "AnswerBook.dropped" s_AnswerBook_dropped [] []) (k_AnswerBook : Cls K (He.ga K "AnswerBook")) (a_AnswerBook_entries : NoAttr K (He.ga K "AnswerBook") "entries") : FkB P w K mg base CX0 (k + 1) (He.ma K (He.ga K "AnswerBook") "dropped") "dropped" "AnswerBook.dropped" s_AnswerBook_dropped [] [] ["self", "name"] (sp_AnswerBook_dropped) := by
  have sc := sc_AnswerBook_dropped
  exact okB F sc len_AnswerBook_dropped fun cdv A outer s H E G hr hgd => ⟨_, a_AnswerBook_dropped ,
    dss_one (ds_fldK K "AnswerBook" k_AnswerBook a_AnswerBook_entries (dv 0) (de_lc false rfl sc.nd (di_seq (de_fldK K "AnswerBook" k_AnswerBook a_AnswerBook_entries (dv 0))) (blkOk_by (own := [("entry", 2)]) (by kernel_rfl)) (dc_of (fun _ _ _ _ _ => dg_name (i := 2) sc.nd rfl (.inl rfl)) (fun _ _ _ _ _ => dts_one (dt_nev)) (fun _ _ _ _ _ => de_nev)) wipe_name)),
    fun ds W QD ED h => rd_AnswerBook_dropped h⟩
def sp_AnswerBook_added : SpD := fun ds W Q _ => ∃ p x y, ds = [.ptr p, x, y] ∧ W p = some abM ∧ Q .non W
theorem len_AnswerBook_added : ∀ ds W Q E, sp_AnswerBook_added ds W Q E → ds.length = 3 := by
  rintro ds W Q E ⟨_, _, _, rfl, _⟩; rfl
theorem gc_book_added {p : Addr} {x y : D} {W : Wd} {Q : DQ} {E : DX} (hw : W p = some abM) (k : Q .non W) : sp_AnswerBook_added [.ptr p, x, y] W Q E := ⟨p, x, y, rfl, hw, k⟩

abbrev n_AnswerBook_added : List Str := ["self", "left", "right", "entry"]
theorem sd_AnswerBook_added (x0 x1 x2 : D) : startD n_AnswerBook_added [x0, x1, x2] = [some x0, some x1, some x2, none] := rfl
def e1_AnswerBook_added  : AE := aNevE
def t1_AnswerBook_added  : AT := aNevT
def a_AnswerBook_added  : AS := aFldS "AnswerBook" "entries" (aVar 0) (aLc false (aiSeq (aFld "AnswerBook" "entries" (aVar 0))) (agName 3) (t1_AnswerBook_added) (e1_AnswerBook_added) [3])
theorem rd_AnswerBook_added {ds : List D} {W : Wd} {Q : DQ} {E : DX} (h : sp_AnswerBook_added ds W Q E) : a_AnswerBook_added (EN Q) (startD n_AnswerBook_added ds) W := by
  obtain ⟨p, x, y, rfl, hw, q⟩ := h
  unfold a_AnswerBook_added
  walk_at "rd"
  refine lcG_inv (fun ds acc W' => W' = W ∧ ds = [] ∧ acc = []) ⟨rfl, rfl, rfl⟩ (by rw [sizeLine_val]; simp) (fun _ _ _ _ _ _ => trivial) ?_ ?_
  · rintro d ds acc W' L Q' P ⟨_, e, _⟩
    cases e
  · rintro acc W' ⟨rfl, _, rfl⟩
    rw [if_neg (by decide)]
    walk_at "rd"
    refine go_fldP (fs := [("entries", .lst [])]) (fs' := [("entries", .lst [])]) hw (by simp) rfl ?_
    rw [show W'.set p (.obj "AnswerBook" [("entries", .lst [])]) = W' from Wd.set_self hw]
    exact q

theorem sc_AnswerBook_added : FnScope ["self", "left", "right", "entry"] ["self", "left", "right"] (defScope s_AnswerBook_added) := ⟨rfl, rfl, rfl, by decide +kernel, rfl, by decide +kernel, by decide +kernel⟩
theorem ok_AnswerBook_added {P : Program} {w : World} {K : PySem.W.Frag} {mg : Str → Option Value} {base : Heap} {k : Nat}  (F : DfB K (He.ma K (He.ga K "AnswerBook") "added") "added" "AnswerBook.added" s_AnswerBook_added [] []) (k_AnswerBook : Cls K (He.ga K "AnswerBook")) (a_AnswerBook_entries : NoAttr K (He.ga K "AnswerBook") "entries") : FkB P w K mg base CX0 (k + 1) (He.ma K (He.ga K "AnswerBook") "added") "added" "AnswerBook.added" s_AnswerBook_added [] [] ["self", "left", "right"] (sp_AnswerBook_added) := by
  have sc := sc_AnswerBook_added
  exact okB F sc len_AnswerBook_added fun cdv A outer s H E G hr hgd => ⟨_, a_AnswerBook_added ,
    dss_one (ds_fldK K "AnswerBook" k_AnswerBook a_AnswerBook_entries (dv 0) (de_lc false rfl sc.nd (di_seq (de_fldK K "AnswerBook" k_AnswerBook a_AnswerBook_entries (dv 0))) (blkOk_by (own := [("entry", 3)]) (by kernel_rfl)) (dc_of (fun _ _ _ _ _ => dg_name (i := 3) sc.nd rfl (.inl rfl)) (fun _ _ _ _ _ => dts_one (dt_nev)) (fun _ _ _ _ _ => de_nev)) wipe_name)),
    fun ds W QD ED h => rd_AnswerBook_added h⟩
def sp_Signature_require : SpD := fun ds W Q E => ∃ x S n, ds = [x, .str n] ∧ SgAt W x S ∧ (n ∈ S.names → Q .non W) ∧ (n ∉ S.names → E "UnknownName" [("name", .str n)] W)
theorem len_Signature_require : ∀ ds W Q E, sp_Signature_require ds W Q E → ds.length = 2 := by
  rintro ds W Q E ⟨_, _, _, rfl, _⟩; rfl
theorem gc_requireX {W : Wd} {x : D} {S : SgS} {n : Str} {Q : DQ} {E : DX} (d : SgAt W x S) (k : n ∈ S.names → Q .non W) (k' : n ∉ S.names → E "UnknownName" [("name", .str n)] W) : sp_Signature_require [x, .str n] W Q E := ⟨x, S, n, rfl, d, k, k'⟩
theorem gc_require {W : Wd} {x : D} {S : SgS} {n : Str} {Q : DQ} {E : DX} (d : SgAt W x S) (h : n ∈ S.names) (k : Q .non W) : sp_Signature_require [x, .str n] W Q E := gc_requireX d (fun _ => k) fun z => absurd h z

abbrev n_Signature_require : List Str := ["self", "name"]
theorem sd_Signature_require (x0 x1 : D) : startD n_Signature_require [x0, x1] = [some x0, some x1] := rfl
def a_Signature_require  (WD : AW) : AS := aIfS (aTest (aOp (dIn true) (aVar 1) (aFld "Signature" "arities" (aVar 0)))) (aRaise1 "UnknownName" "name" WD (aVar 1)) (aNext)
theorem rd_Signature_require {ds : List D} {W : Wd} {Q : DQ} {E : DX} (h : sp_Signature_require ds W Q E) : a_Signature_require (fun _ => E) (EN Q) (startD n_Signature_require ds) W := by
  obtain ⟨x, S, n, rfl, ⟨a, b, c, h0, h1, h2, h3⟩, q, q'⟩ := h
  unfold a_Signature_require
  walk_at "rd"
  refine go_fldV h0 (f := "arities") (d := b) rfl ?_
  refine go_ninO h2 rfl ?_
  rw [look_isSome_ars]
  by_cases hn : n ∈ S.names
  · rw [decide_eq_true hn]
    walk_at "rd"
    exact q hn
  · rw [decide_eq_false hn]
    walk_at "rd"
    exact q' hn

theorem sc_Signature_require : FnScope ["self", "name"] ["self", "name"] (defScope s_Signature_require) := ⟨rfl, rfl, rfl, by decide +kernel, rfl, by decide +kernel, by decide +kernel⟩
theorem ok_Signature_require {P : Program} {w : World} {K : PySem.W.Frag} {mg : Str → Option Value} {base : Heap} {k : Nat}  (F : DfB K (He.ma K (He.ga K "Signature") "require") "require" "Signature.require" s_Signature_require [] []) (k_Signature : Cls K (He.ga K "Signature")) (a_Signature_arities : NoAttr K (He.ga K "Signature") "arities") (su_UnknownName : SupF P K (He.ga K "UnknownName") "name" (defArgs s_UnknownName___init__) (defBody s_UnknownName___init__) (defScope s_UnknownName___init__)) (gl_UnknownName : mg "UnknownName" = some (.ref (He.ga K "UnknownName"))) (z_super : mg "super" = none) : FkB P w K mg base (L2.CX P w) (k + 1) (He.ma K (He.ga K "Signature") "require") "require" "Signature.require" s_Signature_require [] [] ["self", "name"] (sp_Signature_require) := by
  have sc := sc_Signature_require
  exact okX (a := a_Signature_require ) F sc len_Signature_require (fun cdv A outer s H E G WD hr hgd htk hpo hl => ⟨_,
    dss_one (ds_if (dt_cmp (op_notInA (hu151 hr)) sr_in (dv 1) (de_fldK K "Signature" k_Signature a_Signature_arities (dv 0)) (by rfl)) (dss_one (ds_raise1 (k := k) K rfl htk hl su_UnknownName supB_UnknownName gl_UnknownName z_super hr (dv 1))) (dss_nil))⟩)
    (fun ds W QD ED h => rd_Signature_require h)
def excB (x : Bool × Str) : Str := if x.1 = true then "UnknownName" else "WrongArity"
def sp_Signature_check_names (n : Nat) : SpD := fun ds W Q E => ∃ (x : D) (ops : Sig) (t : Trm), ds = [x, t.d] ∧ SgAt W x (sg0 ops) ∧ (ops.map Prod.fst).Nodup ∧ t.depth ≤ n ∧ t.size ≤ 100000 ∧ (t.bad ops = none → Q .non W) ∧ (∀ x, t.bad ops = some x → E (excB x) [("name", .str x.2)] W)
theorem len_Signature_check_names {n : Nat} : ∀ ds W Q E, sp_Signature_check_names n ds W Q E → ds.length = 2 := by
  rintro ds W Q E ⟨_, _, _, rfl, _⟩; rfl
theorem none_Signature_check_names : ∀ ds W Q E, ¬ sp_Signature_check_names 0 ds W Q E := fun ds W Q E ⟨_, _, t, _, _, _, h, _⟩ => by have := t.depth_pos; omega
theorem gc_check_names {n : Nat} {x : D} {ops : Sig} {t : Trm} {W : Wd} {Q : DQ} {E : DX} (sg : SgAt W x (sg0 ops)) (h0 : (ops.map Prod.fst).Nodup) (h1 : t.depth ≤ n) (h2 : t.size ≤ 100000) (k : t.bad ops = none → Q .non W) (k' : ∀ x, t.bad ops = some x → E (excB x) [("name", .str x.2)] W) : sp_Signature_check_names n [x, t.d] W Q E := ⟨x, ops, t, rfl, sg, h0, h1, h2, k, k'⟩

abbrev n_Signature_check_names : List Str := ["self", "term", "argument"]
theorem sd_Signature_check_names (x0 x1 : D) : startD n_Signature_check_names [x0, x1] = [some x0, some x1, none] := rfl
def b1_Signature_check_names (n : Nat) (WD : AW) : AS := aDrop (aMeth "Signature" "check_names" (sp_Signature_check_names n) [] WD (aVar 0) (aCons (aVar 2) (aNil)))
def a_Signature_check_names (n : Nat) (WD : AW) : AS := aSeq (aIfS (aTest (aCall (sp_is_variable) [] ED0 (aCons (aVar 1) (aNil)))) (aRetN) (aNext)) (aSeq (aDrop (aMeth "Signature" "require" (sp_Signature_require) [] WD (aVar 0) (aCons (aOp dIx (aVar 1) (aC (.int 0))) (aNil)))) (aSeq (aIfS (aTest (aOp (dNe) (aOp (dI0 fun i j => .int (i - j)) (aCB (dLen) (aCons (aVar 1) (aNil))) (aC (.int 1))) (aOp dIx (aFld "Signature" "arities" (aVar 0)) (aOp dIx (aVar 1) (aC (.int 0)))))) (aRaise1 "WrongArity" "name" WD (aOp dIx (aVar 1) (aC (.int 0)))) (aNext)) (aFor (aiSeq (aSl (dSl false) (aVar 1) (aPart (aC (.int 1))) (aNoPart))) (agName 2) (b1_Signature_check_names n WD))))
theorem rd_Signature_check_names {n : Nat} {ds : List D} {W : Wd} {Q : DQ} {E : DX} (h : sp_Signature_check_names (n + 1) ds W Q E) : a_Signature_check_names n (fun _ => E) (EN Q) (startD n_Signature_check_names ds) W := by
  obtain ⟨y, ops, t, rfl, sg, nd, hd, hz, q, q'⟩ := h
  obtain ⟨a, b, c, h0, h1, h2, h3⟩ := id sg
  unfold a_Signature_check_names
  cases t with
  | var v =>
    rw [Trm.d_var]
    walk_at "rd"
    exact q rfl
  | app f ts =>
    have hd := depth_app_le.mp hd
    have hls := length_sizes ts
    rw [Trm.size] at hz
    have hb : (Trm.app f ts).bad ops = (badAt ops (.app f ts)).or (Trm.bads ops ts) := bad_app
    rw [hb] at q q'
    rw [Trm.d_app]
    walk_at "rd"
    refine go_methV h0 rfl ?_
    walk_at "rd"
    refine gc_requireX sg (fun hn => ?_) (fun hn => ?_)
    · rw [sg0_names] at hn
      obtain ⟨⟨f', m⟩, hm, e⟩ := List.mem_map.mp hn
      cases (show f' = f from e)
      have hf := sg0_find nd hm
      walk_at "rd"
      refine go_fldV h0 (f := "arities") (d := b) rfl ?_
      walk_at "rd"
      refine go_ixO (d := .int m) h2 rfl (look_ars hf) ?_
      by_cases hk : ts.length = m
      · rw [badAt_yes hn (by rw [hk]; exact hm), Option.none_or] at q q'
        walk_at "rd"
        rw [show decide (((D.str f :: ts.map Trm.d).length : Int) - 1 = (m : Int)) = true from decide_eq_true (by simp; omega)]
        walk_at "rd"
        refine forL_inv (fun ds δ W' => ∃ (us : List Trm) (x : Option D), W' = W ∧ ds = us.map Trm.d ∧ (∀ u ∈ us, u ∈ ts) ∧ Trm.bads ops us = Trm.bads ops ts ∧ δ = [some y, some (.tup (.str f :: ts.map Trm.d)), x]) ⟨ts, none, rfl, by simp, fun _ h => h, rfl, rfl⟩ (fun _ _ _ _ => trivial) ?_ ?_
        · rintro d ds δ W' N ⟨us, x, rfl, e, hu, hbs, rfl⟩ kk
          cases us with
          | nil => cases e
          | cons u us =>
            rw [List.map_cons] at e
            cases e
            have hm := hu u List.mem_cons_self
            have := size_mem hm
            rw [bads_cons] at hbs
            unfold b1_Signature_check_names
            walk_at "rd"
            refine go_methV h0 rfl ?_
            walk_at "rd"
            refine gc_check_names sg nd (hd u hm) (by omega) (fun e => ?_) (fun x e => ?_)
            · rw [e, Option.none_or] at hbs
              walk_at "rd"
              exact kk _ _ ⟨us, _, rfl, rfl, fun v hv => hu v (List.mem_cons_of_mem _ hv), hbs, rfl⟩
            · rw [e, Option.some_or] at hbs
              exact q' x hbs.symm
        · rintro δ W' ⟨us, x, rfl, e, hu, hbs, rfl⟩
          cases us with
          | cons _ _ => cases e
          | nil =>
            walk_at "rd"
            exact q hbs.symm
      · rw [badAt_ar hn (fun z => hk (ar_uniq nd z hm)), Option.some_or] at q q'
        walk_at "rd"
        rw [show decide (((D.str f :: ts.map Trm.d).length : Int) - 1 = (m : Int)) = false from decide_eq_false (by simp; omega)]
        walk_at "rd"
        exact q' _ rfl
    · rw [sg0_names] at hn
      rw [badAt_no hn, Option.some_or] at q q'
      exact q' _ rfl

theorem sc_Signature_check_names : FnScope ["self", "term", "argument"] ["self", "term"] (defScope s_Signature_check_names) := ⟨rfl, rfl, rfl, by decide +kernel, rfl, by decide +kernel, by decide +kernel⟩
theorem ok_Signature_check_names {P : Program} {w : World} {K : PySem.W.Frag} {mg : Str → Option Value} {base : Heap} {k : Nat} (n : Nat) (F : DfB K (He.ma K (He.ga K "Signature") "check_names") "check_names" "Signature.check_names" s_Signature_check_names [] []) (g_is_variable : Fk P w K mg base CX0 k "is_variable" ["term"] (sp_is_variable)) (b_Signature_require : FkM P w K mg base (L2.CX P w) k (He.ma K (He.ga K "Signature") "require") ["self", "name"] (sp_Signature_require)) (m_Signature_require : Meth K (He.ga K "Signature") "require" (He.ma K (He.ga K "Signature") "require")) (k_Signature : Cls K (He.ga K "Signature")) (z_len : mg "len" = none) (a_Signature_arities : NoAttr K (He.ga K "Signature") "arities") (su_WrongArity : SupF P K (He.ga K "WrongArity") "name" (defArgs s_WrongArity___init__) (defBody s_WrongArity___init__) (defScope s_WrongArity___init__)) (gl_WrongArity : mg "WrongArity" = some (.ref (He.ga K "WrongArity"))) (z_super : mg "super" = none) (b_Signature_check_names : FkM P w K mg base (L2.CX P w) k (He.ma K (He.ga K "Signature") "check_names") ["self", "term"] (sp_Signature_check_names n)) (m_Signature_check_names : Meth K (He.ga K "Signature") "check_names" (He.ma K (He.ga K "Signature") "check_names")) : FkB P w K mg base (L2.CX P w) (k + 1) (He.ma K (He.ga K "Signature") "check_names") "check_names" "Signature.check_names" s_Signature_check_names [] [] ["self", "term"] (sp_Signature_check_names (n + 1)) := by
  have sc := sc_Signature_check_names
  exact okX (a := a_Signature_check_names n) F sc len_Signature_check_names (fun cdv A outer s H E G WD hr hgd htk hpo hl => ⟨_,
    dss_cons (ds_if (dt_val (de_fn g_is_variable hr hgd (da_cons (dv 1) (da_nil)))) (dss_one (ds_retN)) (dss_nil)) (dss_cons (ds_expr (de_methK K (fun σ => passAt htk σ) hl k_Signature m_Signature_require b_Signature_require hr hgd (dv 0) (da_cons (de_ix (ix_all (hu_of hr)) sr_ix (dv 1) (de_int)) (da_nil)))) (dss_cons (ds_if (dt_cmp (op_neP (hu151 hr)) sr_ne (de_op op_sub sr_i0 (de_callB call_lenA sc_len (by rfl) z_len (by decide +kernel) (da_cons (dv 1) (da_nil))) (de_int)) (de_ix (ix_all (hu_of hr)) sr_ix (de_fldK K "Signature" k_Signature a_Signature_arities (dv 0)) (de_ix (ix_all (hu_of hr)) sr_ix (dv 1) (de_int))) (nomark _)) (dss_one (ds_raise1 (k := k) K rfl htk hl su_WrongArity supB_WrongArity gl_WrongArity z_super hr (de_ix (ixK K (ix_all (hu_of hr))) sr_ix (dv 1) (de_int)))) (dss_nil)) (dss_one (ds_for hpo rfl (di_seq (de_slice sl_all sl_sim (dv 1) (do_some (de_int)) (do_none))) (dg_name (i := 2) sc.nd rfl (.inl rfl)) (dss_one (ds_expr (de_methK K (fun σ => passAt htk σ) hl k_Signature m_Signature_check_names b_Signature_check_names hr hgd (dv 0) (da_cons (dv 2) (da_nil)))))))))⟩)
    (fun ds W QD ED h => rd_Signature_check_names h)
theorem all_Signature_check_names {P : Program} {w : World} {K : PySem.W.Frag} {mg : Str → Option Value} {base : Heap} {k : Nat} (F : DfB K (He.ma K (He.ga K "Signature") "check_names") "check_names" "Signature.check_names" s_Signature_check_names [] []) (g_is_variable : Fk P w K mg base CX0 k "is_variable" ["term"] (sp_is_variable)) (b_Signature_require : FkM P w K mg base (L2.CX P w) k (He.ma K (He.ga K "Signature") "require") ["self", "name"] (sp_Signature_require)) (m_Signature_require : Meth K (He.ga K "Signature") "require" (He.ma K (He.ga K "Signature") "require")) (k_Signature : Cls K (He.ga K "Signature")) (z_len : mg "len" = none) (a_Signature_arities : NoAttr K (He.ga K "Signature") "arities") (su_WrongArity : SupF P K (He.ga K "WrongArity") "name" (defArgs s_WrongArity___init__) (defBody s_WrongArity___init__) (defScope s_WrongArity___init__)) (gl_WrongArity : mg "WrongArity" = some (.ref (He.ga K "WrongArity"))) (z_super : mg "super" = none) (m_Signature_check_names : Meth K (He.ga K "Signature") "check_names" (He.ma K (He.ga K "Signature") "check_names")) : ∀ n : Nat, FkB P w K mg base (L2.CX P w) (k + n) (He.ma K (He.ga K "Signature") "check_names") "check_names" "Signature.check_names" s_Signature_check_names [] [] ["self", "term"] (sp_Signature_check_names n)
  | 0 => (FkB.none F none_Signature_check_names).mono (Nat.zero_le _)
  | n + 1 => ok_Signature_check_names n F  (g_is_variable.mono (Nat.le_add_right _ _)) (b_Signature_require.mono (Nat.le_add_right _ _)) m_Signature_require k_Signature z_len a_Signature_arities su_WrongArity gl_WrongArity z_super ((all_Signature_check_names F  g_is_variable b_Signature_require m_Signature_require k_Signature z_len a_Signature_arities su_WrongArity gl_WrongArity z_super m_Signature_check_names n).m (fun _ _ _ _ _ _ us hl => match us, hl with | [_, _], _ => rfl)) m_Signature_check_names
def sp_Signature_check : SpD := fun ds W Q E => ∃ (x : D) (ops : Sig) (t : Trm), ds = [x, t.d] ∧ SgAt W x (sg0 ops) ∧ (ops.map Prod.fst).Nodup ∧ t.depth ≤ 100 ∧ t.size ≤ 100000 ∧ (∀ x, t.bad ops = some x → E (excB x) [("name", .str x.2)] W) ∧ (t.bad ops = none → t.depth > 30 ∨ t.size > 400 → E "TooLarge" [] W) ∧ (t.bad ops = none → ¬ (t.depth > 30 ∨ t.size > 400) → Q .non W)
theorem len_Signature_check : ∀ ds W Q E, sp_Signature_check ds W Q E → ds.length = 2 := by
  rintro ds W Q E ⟨_, _, _, rfl, _⟩; rfl
theorem gc_check {x : D} {ops : Sig} {t : Trm} {W : Wd} {Q : DQ} {E : DX} (sg : SgAt W x (sg0 ops)) (h0 : (ops.map Prod.fst).Nodup) (h1 : t.depth ≤ 100) (h2 : t.size ≤ 100000) (k1 : ∀ x, t.bad ops = some x → E (excB x) [("name", .str x.2)] W) (k2 : t.bad ops = none → t.depth > 30 ∨ t.size > 400 → E "TooLarge" [] W) (k3 : t.bad ops = none → ¬ (t.depth > 30 ∨ t.size > 400) → Q .non W) : sp_Signature_check [x, t.d] W Q E := ⟨x, ops, t, rfl, sg, h0, h1, h2, k1, k2, k3⟩

abbrev n_Signature_check : List Str := ["self", "term"]
theorem sd_Signature_check (x0 x1 : D) : startD n_Signature_check [x0, x1] = [some x0, some x1] := rfl
def a_Signature_check  (WD : AW) : AS := aSeq (aDrop (aMeth "Signature" "check_names" (sp_Signature_check_names 100) [] WD (aVar 0) (aCons (aVar 1) (aNil)))) (aDrop (aCallX (sp_check_size) [] WD (aCons (aVar 1) (aNil))))
theorem rd_Signature_check {ds : List D} {W : Wd} {Q : DQ} {E : DX} (h : sp_Signature_check ds W Q E) : a_Signature_check (fun _ => E) (EN Q) (startD n_Signature_check ds) W := by
  obtain ⟨y, ops, t, rfl, sg, nd, hd, hz, k1, k2, k3⟩ := h
  obtain ⟨a, b, c, h0, h1, h2, h3⟩ := id sg
  unfold a_Signature_check
  walk_at "rd"
  refine go_methV h0 rfl ?_
  walk_at "rd"
  refine gc_check_names sg nd hd hz (fun e => ?_) k1
  walk_at "rd"
  refine gc_check_size (by omega) (fun h => ?_) (k2 e)
  walk_at "rd"
  exact k3 e h

theorem sc_Signature_check : FnScope ["self", "term"] ["self", "term"] (defScope s_Signature_check) := ⟨rfl, rfl, rfl, by decide +kernel, rfl, by decide +kernel, by decide +kernel⟩
theorem ok_Signature_check {P : Program} {w : World} {K : PySem.W.Frag} {mg : Str → Option Value} {base : Heap} {k : Nat}  (F : DfB K (He.ma K (He.ga K "Signature") "check") "check" "Signature.check" s_Signature_check [] []) (b_Signature_check_names : FkM P w K mg base (L2.CX P w) k (He.ma K (He.ga K "Signature") "check_names") ["self", "term"] (sp_Signature_check_names 100)) (m_Signature_check_names : Meth K (He.ga K "Signature") "check_names" (He.ma K (He.ga K "Signature") "check_names")) (k_Signature : Cls K (He.ga K "Signature")) (b_check_size : FkM P w K mg base (L2.CX P w) k (He.ga K "check_size") ["term"] (sp_check_size)) (kp_check_size : PySem.W.keepIn K (.ref (He.ga K "check_size")) = true) (gl_check_size : mg "check_size" = some (.ref (He.ga K "check_size"))) : FkB P w K mg base (L2.CX P w) (k + 1) (He.ma K (He.ga K "Signature") "check") "check" "Signature.check" s_Signature_check [] [] ["self", "term"] (sp_Signature_check) := by
  have sc := sc_Signature_check
  exact okX (a := a_Signature_check ) F sc len_Signature_check (fun cdv A outer s H E G WD hr hgd htk hpo hl => ⟨_,
    dss_cons (ds_expr (de_methK K (fun σ => passAt htk σ) hl k_Signature m_Signature_check_names b_Signature_check_names hr hgd (dv 0) (da_cons (dv 1) (da_nil)))) (dss_one (ds_expr (de_callK K (fun σ => passAt htk σ) hl b_check_size gl_check_size kp_check_size hr hgd (da_cons (dv 1) (da_nil)))))⟩)
    (fun ds W QD ED h => rd_Signature_check h)
def sp_check_equation : SpD := fun ds W Q E => ∃ (x : D) (ops : Sig) (l r : Trm), ds = [x, l.d, r.d] ∧ SgAt W x (sg0 ops) ∧ (ops.map Prod.fst).Nodup ∧ (l.depth ≤ 30 ∧ l.size ≤ 400) ∧ (r.depth ≤ 30 ∧ r.size ≤ 400) ∧
  (∀ z, (l.bad ops).or (r.bad ops) = some z → E (excB z) [("name", .str z.2)] W) ∧ (l.bad ops = none → r.bad ops = none → (∃ v ∈ l.vars ++ r.vars, 9 < v) → E "TooLarge" [] W) ∧ (l.bad ops = none → r.bad ops = none → (∀ v ∈ l.vars ++ r.vars, v ≤ 9) → Q .non W)
theorem len_check_equation : ∀ ds W Q E, sp_check_equation ds W Q E → ds.length = 3 := by
  rintro ds W Q E ⟨_, _, _, _, rfl, _⟩; rfl
theorem gc_check_equation {x : D} {ops : Sig} {l r : Trm} {W : Wd} {Q : DQ} {E : DX} (h1 : SgAt W x (sg0 ops)) (h2 : (ops.map Prod.fst).Nodup) (h3 : l.depth ≤ 30 ∧ l.size ≤ 400) (h4 : r.depth ≤ 30 ∧ r.size ≤ 400) (k1 : ∀ z, (l.bad ops).or (r.bad ops) = some z → E (excB z) [("name", .str z.2)] W) (k2 : l.bad ops = none → r.bad ops = none → (∃ v ∈ l.vars ++ r.vars, 9 < v) → E "TooLarge" [] W) (k3 : l.bad ops = none → r.bad ops = none → (∀ v ∈ l.vars ++ r.vars, v ≤ 9) → Q .non W) : sp_check_equation [x, l.d, r.d] W Q E := ⟨x, ops, l, r, rfl, h1, h2, h3, h4, k1, k2, k3⟩

abbrev n_check_equation : List Str := ["signature", "left", "right", "variable"]
theorem sd_check_equation (x0 x1 x2 : D) : startD n_check_equation [x0, x1, x2] = [some x0, some x1, some x2, none] := rfl
def b1_check_equation  (WD : AW) : AS := aIfS (aTest (aOp (dI0 fun i j => .bl (decide (j < i))) (aVar 3) (aC (.int 9)))) (aRaise "TooLarge" WD) (aNext)
def a_check_equation  (WD : AW) : AS := aSeq (aDrop (aMeth "Signature" "check" (sp_Signature_check) [] WD (aVar 0) (aCons (aVar 1) (aNil)))) (aSeq (aDrop (aMeth "Signature" "check" (sp_Signature_check) [] WD (aVar 0) (aCons (aVar 2) (aNil)))) (aFor (aiSeq (aOp (dAdd false) (aCall (sp_variables) [] ED0 (aCons (aVar 1) (aNil))) (aCall (sp_variables) [] ED0 (aCons (aVar 2) (aNil))))) (agName 3) (b1_check_equation WD)))
theorem rd_check_equation {ds : List D} {W : Wd} {Q : DQ} {E : DX} (h : sp_check_equation ds W Q E) : a_check_equation (fun _ => E) (EN Q) (startD n_check_equation ds) W := by
  obtain ⟨x, ops, l, r, rfl, sg, nd, h3, h4, k1, k2, k3⟩ := h
  obtain ⟨a, b, c, h0, _⟩ := id sg
  unfold a_check_equation
  walk_at "rd"
  refine go_methV h0 rfl ?_
  walk_at "rd"
  refine gc_check sg nd (by omega) (by omega) (fun z e => k1 z (by rw [e]; rfl)) (fun _ h => absurd h (by omega)) (fun el _ => ?_)
  walk_at "rd"
  refine go_methV h0 rfl ?_
  walk_at "rd"
  refine gc_check sg nd (by omega) (by omega) (fun z e => k1 z (by rw [el, e]; rfl)) (fun _ h => absurd h (by omega)) (fun er _ => ?_)
  have k2 := k2 el er
  have k3 := k3 el er
  walk_at "rd"
  refine gc_variables (by omega) (by omega) ?_
  walk_at "rd"
  refine gc_variables (by omega) (by omega) ?_
  have vl := vlenS l
  have vr := vlenS r
  refine go_addL rfl rfl (by rw [sizeLine_val]; simp; omega) ?_
  rw [← List.map_append]
  walk_at "rd"
  refine forL_inv (fun ds δ W' => ∃ (us vs : List Int) (z : Option D), W' = W ∧ ds = us.map .int ∧ vs ++ us = l.vars ++ r.vars ∧ (∀ v ∈ vs, v ≤ 9) ∧ δ = [some x, some l.d, some r.d, z]) ⟨_, [], none, rfl, rfl, rfl, by simp, rfl⟩ (fun _ _ _ _ => trivial) ?_ ?_
  · rintro d' ds δ W' N ⟨us, vs, z, rfl, e, e2, hv, rfl⟩ kk
    cases us with
    | nil => cases e
    | cons u us =>
      rw [List.map_cons] at e
      cases e
      unfold b1_check_equation
      walk_at "rd"
      by_cases h9 : 9 < u
      · rw [decide_eq_true h9]
        walk_at "rd"
        exact k2 ⟨u, by rw [← e2]; simp, h9⟩
      · rw [decide_eq_false h9]
        walk_at "rd"
        refine kk _ _ ⟨us, vs ++ [u], _, rfl, rfl, by rw [← e2]; simp, fun v h => ?_, rfl⟩
        rcases List.mem_append.mp h with h | h
        · exact hv v h
        · rw [List.mem_singleton] at h; omega
  · rintro δ W' ⟨us, vs, z, rfl, e, e2, hv, rfl⟩
    cases us with
    | cons _ _ => cases e
    | nil =>
      rw [List.append_nil] at e2
      walk_at "rd"
      exact k3 (by rw [← e2]; exact hv)

theorem sc_check_equation : FnScope ["signature", "left", "right", "variable"] ["signature", "left", "right"] (defScope s_check_equation) := ⟨rfl, rfl, rfl, by decide +kernel, rfl, by decide +kernel, by decide +kernel⟩
theorem ok_check_equation {P : Program} {w : World} {K : PySem.W.Frag} {mg : Str → Option Value} {base : Heap} {k : Nat}  (F : DfB K (He.ga K "check_equation") "check_equation" "check_equation" s_check_equation [] []) (b_Signature_check : FkM P w K mg base (L2.CX P w) k (He.ma K (He.ga K "Signature") "check") ["self", "term"] (sp_Signature_check)) (m_Signature_check : Meth K (He.ga K "Signature") "check" (He.ma K (He.ga K "Signature") "check")) (k_Signature : Cls K (He.ga K "Signature")) (g_variables : Fk P w K mg base CX0 k "variables" ["term"] (sp_variables)) (c_MAX_EQUATION_VARIABLE : ∃ t, mg "MAX_EQUATION_VARIABLE" = some (.int 9 t)) (ex_TooLarge : ExcK K mg "TooLarge") : FkB P w K mg base (L2.CX P w) (k + 1) (He.ga K "check_equation") "check_equation" "check_equation" s_check_equation [] [] ["signature", "left", "right"] (sp_check_equation) := by
  have sc := sc_check_equation
  exact okX (a := a_check_equation ) F sc len_check_equation (fun cdv A outer s H E G WD hr hgd htk hpo hl => ⟨_,
    dss_cons (ds_expr (de_methK K (fun σ => passAt htk σ) hl k_Signature m_Signature_check b_Signature_check hr hgd (dv 0) (da_cons (dv 1) (da_nil)))) (dss_cons (ds_expr (de_methK K (fun σ => passAt htk σ) hl k_Signature m_Signature_check b_Signature_check hr hgd (dv 0) (da_cons (dv 2) (da_nil)))) (dss_one (ds_for hpo rfl (di_seq (de_op (op_addA) sr_add (de_fn g_variables hr hgd (da_cons (dv 1) (da_nil))) (de_fn g_variables hr hgd (da_cons (dv 2) (da_nil))))) (dg_name (i := 3) sc.nd rfl (.inl rfl)) (dss_one (ds_if (dt_cmp (op_gt) sr_b0 (dv 3) (de_gint (by rfl) c_MAX_EQUATION_VARIABLE) (nomark _)) (dss_one (ds_raise0 K rfl htk hl ex_TooLarge)) (dss_nil))))))⟩)
    (fun ds W QD ED h => rd_check_equation h)
def sp_Signature___init__ : SpD := fun ds W Q _ => ∃ p W0, ds = [.ptr p] ∧ W = W0.set p (.obj "Signature" []) ∧ W0 p = none ∧ ∀ a b c, Dst4 p a b c → W0 a = none → W0 b = none → W0 c = none → Q .non (sgW W0 p a b c [])
theorem len_Signature___init__ : ∀ ds W Q E, sp_Signature___init__ ds W Q E → ds.length = 1 := by
  rintro ds W Q E ⟨p, W0, rfl, _⟩; rfl
theorem gc_Signature {p : Addr} {W : Wd} {Q : DQ} {E : DX} (hp : W p = none) (k : ∀ a b c, Dst4 p a b c → W a = none → W b = none → W c = none → Q .non (sgW W p a b c [])) : sp_Signature___init__ [.ptr p] (W.set p (.obj "Signature" [])) Q E := ⟨p, W, rfl, rfl, hp, k⟩
theorem freeW {W : Wd} {p a : Addr} {m : MO} (h : (W.set p m) a = none) : a ≠ p ∧ W a = none := by
  have ne : a ≠ p := fun e => by subst e; rw [Wd.set_same] at h; cases h
  exact ⟨ne, by rwa [Wd.set_ne ne] at h⟩

abbrev n_Signature___init__ : List Str := ["self"]
theorem sd_Signature___init__ (x0 : D) : startD n_Signature___init__ [x0] = [some x0] := rfl
def a_Signature___init__  : AS := aSeq (aFldS "Signature" "order" (aVar 0) (aLst true (aNil))) (aSeq (aFldS "Signature" "arities" (aVar 0) (aDk0)) (aFldS "Signature" "flags" (aVar 0) (aDk0)))
theorem rd_Signature___init__ {ds : List D} {W : Wd} {Q : DQ} {E : DX} (h : sp_Signature___init__ ds W Q E) : a_Signature___init__ (EN Q) (startD n_Signature___init__ ds) W := by
  obtain ⟨p, W0, rfl, rfl, hp, q⟩ := h
  unfold a_Signature___init__
  walk_at "rd"
  intro a ha
  obtain ⟨pa, wa⟩ := freeW ha
  walk_at "rd"
  refine go_fldP (fs := []) (fs' := [("order", .ptr a)]) (by rw [Wd.set_ne (Ne.symm pa), Wd.set_same]) (by simp) rfl ?_
  walk_at "rd"
  intro b hb
  obtain ⟨pb, hb⟩ := freeW hb
  obtain ⟨ab, hb⟩ := freeW hb
  obtain ⟨_, wb⟩ := freeW hb
  walk_at "rd"
  refine go_fldP (fs := [("order", .ptr a)]) (fs' := [("order", .ptr a), ("arities", .ptr b)]) (by rw [Wd.set_ne (Ne.symm pb), Wd.set_same]) (by simp) (by rfl) ?_
  walk_at "rd"
  intro c hc
  obtain ⟨pc, hc⟩ := freeW hc
  obtain ⟨bc, hc⟩ := freeW hc
  obtain ⟨_, hc⟩ := freeW hc
  obtain ⟨ac, hc⟩ := freeW hc
  obtain ⟨_, wc⟩ := freeW hc
  walk_at "rd"
  refine go_fldP (fs := [("order", .ptr a), ("arities", .ptr b)]) (fs' := sgFs (.ptr a) (.ptr b) (.ptr c)) (by rw [Wd.set_ne (Ne.symm pc), Wd.set_same]) (by simp) (by rfl) ?_
  walk_at "rd"
  refine (show Q .non _ from ?_)
  rw [show MO.obj "Signature" (sgFs (.ptr a) (.ptr b) (.ptr c)) = sgM a b c from rfl, sg_new, if_neg (fun h => h.elim (fun e => pa e.symm) fun h => h.elim (fun e => pb e.symm) fun e => pc e.symm)]
  exact q a b c ⟨Ne.symm pa, Ne.symm pb, Ne.symm pc, Ne.symm ab, Ne.symm ac, Ne.symm bc⟩ wa wb wc

theorem sc_Signature___init__ : FnScope ["self"] ["self"] (defScope s_Signature___init__) := ⟨rfl, rfl, rfl, by decide +kernel, rfl, by decide +kernel, by decide +kernel⟩
theorem ok_Signature___init__ {P : Program} {w : World} {K : PySem.W.Frag} {mg : Str → Option Value} {base : Heap} {k : Nat}  (F : DfB K (He.ma K (He.ga K "Signature") "__init__") "__init__" "Signature.__init__" s_Signature___init__ [] []) (k_Signature : Cls K (He.ga K "Signature")) (a_Signature_order : NoAttr K (He.ga K "Signature") "order") (a_Signature_arities : NoAttr K (He.ga K "Signature") "arities") (a_Signature_flags : NoAttr K (He.ga K "Signature") "flags") : FkB P w K mg base CX0 (k + 1) (He.ma K (He.ga K "Signature") "__init__") "__init__" "Signature.__init__" s_Signature___init__ [] [] ["self"] (sp_Signature___init__) := by
  have sc := sc_Signature___init__
  exact okB F sc len_Signature___init__ fun cdv A outer s H E G hr hgd => ⟨_, a_Signature___init__ ,
    dss_cons (ds_fldK K "Signature" k_Signature a_Signature_order (dv 0) (de_lst true (da_nil))) (dss_cons (ds_fldK K "Signature" k_Signature a_Signature_arities (dv 0) (de_dk0)) (dss_one (ds_fldK K "Signature" k_Signature a_Signature_flags (dv 0) (de_dk0)))),
    fun ds W QD ED h => rd_Signature___init__ h⟩
def sp_is_name : SpD := fun ds W Q _ => ∃ x : Str, ds = [.str x] ∧ x.length ≤ 1000 ∧ Q (.bl (isName x)) W
theorem len_is_name : ∀ ds W Q E, sp_is_name ds W Q E → ds.length = 1 := by
  rintro ds W Q E ⟨t, rfl, _⟩; rfl
theorem gc_is_name {x : Str} {W : Wd} {Q : DQ} {E : DX} (h : x.length ≤ 1000) (k : Q (.bl (isName x)) W) : sp_is_name [.str x] W Q E := ⟨x, rfl, h, k⟩

abbrev n_is_name : List Str := ["word", "char"]
theorem sd_is_name (x0 : D) : startD n_is_name [x0] = [some x0, none] := rfl
def b1_is_name  : AS := aIfS (aTest (aOp (dIn true) (aVar 1) (aC (.str "abcdefghijklmnopqrstuvwxyz")))) (aRet (aC (.bl false))) (aNext)
def a_is_name  : AS := aSeq (aFor (aiSeq (aVar 0)) (agName 1) (b1_is_name)) (aRet (aChain (dI0 fun i j => .bl (decide (i ≤ j))) (dI0 fun i j => .bl (decide (i ≤ j))) (aC (.int 1)) (aCB (dLen) (aCons (aVar 0) (aNil))) (aC (.int 8))))
theorem rd_is_name {ds : List D} {W : Wd} {Q : DQ} {E : DX} (h : sp_is_name ds W Q E) : a_is_name (EN Q) (startD n_is_name ds) W := by
  obtain ⟨x, rfl, hx, q⟩ := h
  unfold a_is_name
  walk_at "rd"
  refine forL_inv (fun ds δ W' => ∃ (cs : List Nat) (y : Option D), W' = W ∧ ds = cs.map (fun c => D.str ⟨#[c]⟩) ∧ (cs.all fun c => decide (97 ≤ c ∧ c ≤ 122)) = (x.cps.toList.all fun c => decide (97 ≤ c ∧ c ≤ 122)) ∧ δ = [some (.str x), y]) ⟨x.cps.toList, none, rfl, rfl, rfl, rfl⟩ (fun _ _ _ _ => trivial) ?_ ?_
  · rintro d ds δ W' N ⟨cs, y, rfl, e, ha, rfl⟩ kk
    cases cs with
    | nil => cases e
    | cons c cs =>
      rw [List.map_cons] at e
      cases e
      unfold b1_is_name
      walk_at "rd"
      refine go_ninC ?_
      walk_at "rd"
      rw [List.all_cons] at ha
      by_cases hc : 97 ≤ c ∧ c ≤ 122
      · rw [decide_eq_true ((mem_abc c).mpr hc)]
        rw [decide_eq_true hc] at ha
        walk_at "rd"
        exact kk _ _ ⟨cs, _, rfl, rfl, ha, rfl⟩
      · rw [decide_eq_false fun z => hc ((mem_abc c).mp z)]
        rw [decide_eq_false hc] at ha
        walk_at "rd"
        unfold isName at q
        rw [← ha] at q
        exact q
  · rintro δ W' ⟨cs, y, rfl, e, ha, rfl⟩
    cases cs with
    | cons _ _ => cases e
    | nil =>
      unfold isName at q
      rw [← ha] at q
      walk_at "rd"
      refine go_lenV (n := x.length) (by rw [lenOf_str, if_pos (by rw [sizeLine_val]; omega)]) ?_
      walk_at "rd"
      have hz : (decide (1 ≤ x.length ∧ x.length ≤ 8)) = if decide ((1 : Int) ≤ (x.length : Int)) = true then decide ((x.length : Int) ≤ 8) else false := by
        by_cases h1 : 1 ≤ x.length
        · by_cases h2 : x.length ≤ 8
          · simp [h1, h2]; omega
          · simp [h1, h2]; omega
        · simp [h1]; omega
      simp only [List.all_nil, Bool.true_and, hz] at q
      by_cases h1 : 1 ≤ x.length
      · have e1 : decide ((1 : Int) ≤ (x.length : Int)) = true := decide_eq_true (by omega)
        rw [e1] at q
        rw [e1]
        walk_at "rd"
        exact q
      · have e1 : decide ((1 : Int) ≤ (x.length : Int)) = false := decide_eq_false (by omega)
        rw [e1] at q ⊢
        walk_at "rd"
        exact q

theorem sc_is_name : FnScope ["word", "char"] ["word"] (defScope s_is_name) := ⟨rfl, rfl, rfl, by decide +kernel, rfl, by decide +kernel, by decide +kernel⟩
theorem ok_is_name {P : Program} {w : World} {K : PySem.W.Frag} {mg : Str → Option Value} {base : Heap} {k : Nat}  (F : Df K mg "is_name" "is_name" s_is_name) (c_LETTERS : ∃ t, mg "LETTERS" = some (.str "abcdefghijklmnopqrstuvwxyz" t)) (z_len : mg "len" = none) : Fk P w K mg base CX0 (k + 1) "is_name" ["word"] (sp_is_name) := by
  have sc := sc_is_name
  exact okF F sc (fun _ _ _ _ _ _ us hl => match us, hl with | [_], _ => rfl) len_is_name fun cdv A outer s H E G f hr hgd => ⟨_, a_is_name ,
    dss_cons (ds_for PassesOwn.never rfl (di_seq (dv 0)) (dg_name (i := 1) sc.nd rfl (.inl rfl)) (dss_one (ds_if (dt_cmp (op_notInA (hu151 hr)) sr_in (dv 1) (de_gstr (by rfl) c_LETTERS) (by rfl)) (dss_one (ds_ret (de_bl))) (dss_nil)))) (dss_one (ds_ret (de_chain (op_le) (op_le) sr_b0 sr_b0 (de_int) (de_callB call_lenA sc_len (by rfl) z_len (by decide +kernel) (da_cons (dv 0) (da_nil))) (de_int)))),
    fun ds W QD ED h => rd_is_name h⟩
def spDecl (W : Wd) (p a b c : Addr) (S : SgS) (n : Str) (r : Int) (f : Bool) (Q : DQ) (E : DX) : Prop :=
  if isName n = false then E "InvalidName" [] (sgW W p a b c S)
  else if ¬ (0 ≤ r ∧ r ≤ 3) ∨ (f = true ∧ r ≠ 2) then E "InvalidArity" [] (sgW W p a b c S)
  else if n ∈ S.names then E "Duplicate" [] (sgW W p a b c S)
  else if S.length = 12 then E "TooLarge" [] (sgW W p a b c S)
  else Q (.int S.length) (sgW W p a b c (S ++ [(n, r, f)]))
def sp_Signature_declare : SpD := fun ds W Q E => ∃ W0 p a b c S n r f, ds = [.ptr p, .str n, .int r, .bl f] ∧ W = sgW W0 p a b c S ∧ Dst4 p a b c ∧ n.length ≤ 1000 ∧ S.length ≤ 12 ∧ spDecl W0 p a b c S n r f Q E
theorem len_Signature_declare : ∀ ds W Q E, sp_Signature_declare ds W Q E → ds.length = 4 := by
  rintro ds W Q E ⟨_, _, _, _, _, _, _, _, _, rfl, _⟩; rfl
theorem gc_declare {W : Wd} {p a b c : Addr} {S : SgS} {n : Str} {r : Int} {f : Bool} {Q : DQ} {E : DX} (d : Dst4 p a b c) (h1 : n.length ≤ 1000) (h2 : S.length ≤ 12) (k : spDecl W p a b c S n r f Q E) : sp_Signature_declare [.ptr p, .str n, .int r, .bl f] (sgW W p a b c S) Q E := ⟨W, p, a, b, c, S, n, r, f, rfl, rfl, d, h1, h2, k⟩
theorem spDecl_ok {W : Wd} {p a b c : Addr} {S : SgS} {n : Str} {r : Int} {f : Bool} {Q : DQ} {E : DX} (h1 : isName n = true) (h2 : 0 ≤ r) (h3 : r ≤ 3) (h4 : f = true → r = 2) (h5 : n ∉ S.names) (h6 : S.length < 12) (k : Q (.int S.length) (sgW W p a b c (S ++ [(n, r, f)]))) : spDecl W p a b c S n r f Q E := by
  unfold spDecl
  rw [if_neg (by rw [h1]; decide), if_neg (fun z => z.elim (fun z => z ⟨h2, h3⟩) fun z => z.2 (h4 z.1)), if_neg h5, if_neg (by omega)]
  exact k

abbrev n_Signature_declare : List Str := ["self", "name", "arity", "commutative"]
theorem sd_Signature_declare (x0 x1 x2 x3 : D) : startD n_Signature_declare [x0, x1, x2, x3] = [some x0, some x1, some x2, some x3] := rfl
def a_Signature_declare  (WD : AW) : AS := aSeq (aIfS (aNot (aTest (aCall (sp_is_name) [] ED0 (aCons (aVar 1) (aNil))))) (aRaise "InvalidName" WD) (aNext)) (aSeq (aIfS (aOr (aNot (aTest (aChain (dI0 fun i j => .bl (decide (i ≤ j))) (dI0 fun i j => .bl (decide (i ≤ j))) (aC (.int 0)) (aVar 2) (aC (.int 3))))) (aAnd (aTest (aVar 3)) (aTest (aOp (dNe) (aVar 2) (aC (.int 2)))))) (aRaise "InvalidArity" WD) (aNext)) (aSeq (aIfS (aTest (aOp (dIn false) (aVar 1) (aFld "Signature" "arities" (aVar 0)))) (aRaise "Duplicate" WD) (aNext)) (aSeq (aIfS (aTest (aOp (dEq) (aCB (dLen) (aCons (aFld "Signature" "order" (aVar 0)) (aNil))) (aC (.int 12)))) (aRaise "TooLarge" WD) (aNext)) (aSeq (aDrop (aBM tyL dAppend (aFld "Signature" "order" (aVar 0)) (aCons (aVar 1) (aNil)))) (aSeq (aAsg (aVar 2) (agSub (aFld "Signature" "arities" (aVar 0)) (aVar 1) dSet)) (aSeq (aAsg (aVar 3) (agSub (aFld "Signature" "flags" (aVar 0)) (aVar 1) dSet)) (aRet (aOp (dI0 fun i j => .int (i - j)) (aCB (dLen) (aCons (aFld "Signature" "order" (aVar 0)) (aNil))) (aC (.int 1))))))))))
theorem rd_Signature_declare {ds : List D} {W : Wd} {Q : DQ} {E : DX} (h : sp_Signature_declare ds W Q E) : a_Signature_declare (fun _ => E) (EN Q) (startD n_Signature_declare ds) W := by
  obtain ⟨W0, p, a, b, c, S, n, r, f, rfl, rfl, d, hn, hS, q⟩ := h
  unfold a_Signature_declare
  unfold spDecl at q
  walk_at "rd"
  refine gc_is_name hn ?_
  cases e1 : isName n with
  | false =>
    rw [if_pos e1] at q
    walk_at "rd"
    exact q
  | true =>
    rw [if_neg (by rw [e1]; decide)] at q
    walk_at "rd"
    by_cases h0 : 0 ≤ r
    · rw [decide_eq_true h0]
      walk_at "rd"
      by_cases h3 : r ≤ 3
      · rw [decide_eq_true h3]
        walk_at "rd"
        by_cases hb : f = true ∧ r ≠ 2
        · rw [if_pos (.inr hb)] at q
          rw [hb.1]
          walk_at "rd"
          rw [decide_eq_false hb.2]
          walk_at "rd"
          exact q
        · rw [if_neg (fun z => z.elim (fun z => z ⟨h0, h3⟩) hb)] at q
          have hf : f = false ∨ (f = true ∧ r = 2) := by
            cases f with
            | false => exact .inl rfl
            | true => exact .inr ⟨rfl, Classical.byContradiction fun z => hb ⟨rfl, z⟩⟩
          rcases hf with rfl | ⟨rfl, h2⟩ <;> ((walk_at "rd"); try (rw [decide_eq_true h2]; walk_at "rd"))
          all_goals
                have wp := d.wp (W := W0) (S := S)
                have wa := d.wa (W := W0) (S := S)
                have wb := d.wb (W := W0) (S := S)
                have wc := d.wc (W := W0) (S := S)
                walk_at "rd"
                rw [look_isSome_ars]
                by_cases hm : n ∈ S.names
                · rw [if_pos hm] at q
                  rw [decide_eq_true hm]
                  walk_at "rd"
                  exact q
                · rw [if_neg hm] at q
                  rw [decide_eq_false hm]
                  walk_at "rd"
                  have e2 : ((S.names.map D.str).length : Int) = S.length := by rw [List.length_map, names_len]
                  by_cases hl : S.length = 12
                  · rw [if_pos hl] at q
                    rw [decide_eq_true (by omega)]
                    walk_at "rd"
                    exact q
                  · rw [if_neg hl] at q
                    rw [decide_eq_false (by omega)]
                    walk_at "rd"
                    rw [show (sgW W0 p a b c S).set a (.lst (S.names.map D.str ++ [D.str n])) = sgW0 W0 p a b c (.lst (S.names.map D.str ++ [D.str n])) (.dk S.ars) (.dk S.flgs) from d.sa]
                    walk_at "rd"
                    refine go_fldV (objOf_sgp d) (f := "arities") (d := .ptr b) rfl ?_
                    walk_at "rd"
                    refine go_setDk d.atb rfl (by rw [ars_len, sizeLine_val]; omega) ?_
                    rw [d.sb]
                    walk_at "rd"
                    refine go_fldV (objOf_sgp d) (f := "flags") (d := .ptr c) rfl ?_
                    walk_at "rd"
                    refine go_setDk Dst4.atc rfl (by rw [flgs_len, sizeLine_val]; omega) ?_
                    rw [d.sc]
                    walk_at "rd"
                    refine go_fldV (objOf_sgp d) (f := "order") (d := .ptr a) rfl ?_
                    walk_at "rd"
                    refine go_lenV (lenOf_ptr d.ata) ?_
                    walk_at "rd"
                    have e3 : (((S.names.map D.str ++ [D.str n]).length : Int) - 1) = S.length := by rw [List.length_append, List.length_singleton]; omega
                    rw [e3, sg_done hm]
                    exact q
      · rw [if_pos (.inl fun z => h3 z.2)] at q
        rw [decide_eq_false h3]
        walk_at "rd"
        exact q
    · rw [if_pos (.inl fun z => h0 z.1)] at q
      rw [decide_eq_false h0]
      walk_at "rd"
      exact q

theorem sc_Signature_declare : FnScope ["self", "name", "arity", "commutative"] ["self", "name", "arity", "commutative"] (defScope s_Signature_declare) := ⟨rfl, rfl, rfl, by decide +kernel, rfl, by decide +kernel, by decide +kernel⟩
theorem ok_Signature_declare {P : Program} {w : World} {K : PySem.W.Frag} {mg : Str → Option Value} {base : Heap} {k : Nat}  (F : DfB K (He.ma K (He.ga K "Signature") "declare") "declare" "Signature.declare" s_Signature_declare [] [("commutative", .bl false)]) (g_is_name : Fk P w K mg base CX0 k "is_name" ["word"] (sp_is_name)) (ex_InvalidName : ExcK K mg "InvalidName") (c_MAX_ARITY : ∃ t, mg "MAX_ARITY" = some (.int 3 t)) (ex_InvalidArity : ExcK K mg "InvalidArity") (k_Signature : Cls K (He.ga K "Signature")) (a_Signature_arities : NoAttr K (He.ga K "Signature") "arities") (ex_Duplicate : ExcK K mg "Duplicate") (z_len : mg "len" = none) (a_Signature_order : NoAttr K (He.ga K "Signature") "order") (c_MAX_OPERATIONS : ∃ t, mg "MAX_OPERATIONS" = some (.int 12 t)) (ex_TooLarge : ExcK K mg "TooLarge") (a_Signature_flags : NoAttr K (He.ga K "Signature") "flags") : FkB P w K mg base (L2.CX P w) (k + 1) (He.ma K (He.ga K "Signature") "declare") "declare" "Signature.declare" s_Signature_declare [] [("commutative", .bl false)] ["self", "name", "arity", "commutative"] (sp_Signature_declare) := by
  have sc := sc_Signature_declare
  exact okX (a := a_Signature_declare ) F sc len_Signature_declare (fun cdv A outer s H E G WD hr hgd htk hpo hl => ⟨_,
    dss_cons (ds_if (dt_not (dt_val (de_fn g_is_name hr hgd (da_cons (dv 1) (da_nil))))) (dss_one (ds_raise0 K rfl htk hl ex_InvalidName)) (dss_nil)) (dss_cons (ds_if (DW.dt (dw_or (dt_not (dt_chain (op_le) (op_le) sr_b0 sr_b0 (de_int) (dv 2) (de_gint (by rfl) c_MAX_ARITY))) (dw_or1 (DW.dt (dw_and (dt_val (dv 3)) (dw_and1 (dt_cmp (op_neP (hu151 hr)) sr_ne (dv 2) (de_int) (nomark _)))))))) (dss_one (ds_raise0 K rfl htk hl ex_InvalidArity)) (dss_nil)) (dss_cons (ds_if (dt_cmp (op_inA (hu151 hr)) sr_in (dv 1) (de_fldK K "Signature" k_Signature a_Signature_arities (dv 0)) (by rfl)) (dss_one (ds_raise0 K rfl htk hl ex_Duplicate)) (dss_nil)) (dss_cons (ds_if (dt_cmp (op_eqP (hu151 hr)) sr_eq (de_callB call_lenA sc_len (by rfl) z_len (by decide +kernel) (da_cons (de_fldK K "Signature" k_Signature a_Signature_order (dv 0)) (da_nil))) (de_gint (by rfl) c_MAX_OPERATIONS) (nomark _)) (dss_one (ds_raise0 K rfl htk hl ex_TooLarge)) (dss_nil)) (dss_cons (ds_expr (de_append (de_fldK K "Signature" k_Signature a_Signature_order (dv 0)) (da_cons (dv 1) (da_nil)))) (dss_cons (ds_asg (dv 2) (dg_sub (de_fldK K "Signature" k_Signature a_Signature_arities (dv 0)) (dv 1) (set_all (hu_of hr)) set_sim)) (dss_cons (ds_asg (dv 3) (dg_sub (de_fldK K "Signature" k_Signature a_Signature_flags (dv 0)) (dv 1) (set_all (hu_of hr)) set_sim)) (dss_one (ds_ret (de_op op_sub sr_i0 (de_callB call_lenA sc_len (by rfl) z_len (by decide +kernel) (da_cons (de_fldK K "Signature" k_Signature a_Signature_order (dv 0)) (da_nil))) (de_int))))))))))⟩)
    (fun ds W QD ED h => rd_Signature_declare h)
def sp_Signature_copy : SpD := fun ds W Q _ => ∃ x S, ds = [x] ∧ SgAt W x S ∧ SgV S ∧ ∀ p a b c, Dst4 p a b c → W p = none → W a = none → W b = none → W c = none → Q (.ptr p) (sgW W p a b c S)
theorem len_Signature_copy : ∀ ds W Q E, sp_Signature_copy ds W Q E → ds.length = 1 := by
  rintro ds W Q E ⟨_, _, rfl, _⟩; rfl
theorem gc_copy {W : Wd} {x : D} {S : SgS} {Q : DQ} {E : DX} (d : SgAt W x S) (h : SgV S) (k : ∀ p a b c, Dst4 p a b c → W p = none → W a = none → W b = none → W c = none → Q (.ptr p) (sgW W p a b c S)) : sp_Signature_copy [x] W Q E := ⟨x, S, rfl, d, h, k⟩

abbrev n_Signature_copy : List Str := ["self", "result", "name"]
theorem sd_Signature_copy (x0 : D) : startD n_Signature_copy [x0] = [some x0, none, none] := rfl
def b1_Signature_copy  : AS := aDrop (aMethN "Signature" "declare" 2 1 [.p 0, .p 1, .p 2, .k 0] [] (sp_Signature_declare) AW.none (aVar 1) (aCons (aVar 2) (aCons (aOp dIx (aFld "Signature" "arities" (aVar 0)) (aVar 2)) (aNil))) (aCons (aOp dIx (aFld "Signature" "flags" (aVar 0)) (aVar 2)) (aNil)))
def a_Signature_copy  : AS := aSeq (aAsg (aMake "Signature" (sp_Signature___init__) [] AW.none aNil) (agName 1)) (aSeq (aFor (aiSeq (aFld "Signature" "order" (aVar 0))) (agName 2) (b1_Signature_copy)) (aRet (aVar 1)))
theorem rd_Signature_copy {ds : List D} {W : Wd} {Q : DQ} {E : DX} (h : sp_Signature_copy ds W Q E) : a_Signature_copy (EN Q) (startD n_Signature_copy ds) W := by
  obtain ⟨x, S, rfl, sg, hv, q⟩ := h
  unfold a_Signature_copy
  walk_at "rd"
  intro p hp
  refine gc_Signature hp fun a b c d wa wb wc => ⟨rfl, ?_⟩
  walk_at "rd"
  have gw : ∀ S' : SgS, Grow W (sgW W p a b c S') := fun S' z m e => by
    rw [sgW_ne (fun h => by rw [h, hp] at e; cases e) (fun h => by rw [h, wa] at e; cases e) (fun h => by rw [h, wb] at e; cases e) (fun h => by rw [h, wc] at e; cases e)]
    exact e
  obtain ⟨a0, b0, c0, h0, h1, h2, h3⟩ := id sg
  have hl := hv.len
  have hx : ∀ S' : SgS, objOf (sgW W p a b c S') x = some (("Signature" : Str), sgFs a0 b0 c0) ∧ lstRd (sgW W p a b c S') a0 = some (S.names.map .str) ∧ dkOf (sgW W p a b c S') b0 = some S.ars ∧ dkOf (sgW W p a b c S') c0 = some S.flgs := fun S' => ⟨objOf_grow (gw S') h0, lstRd_grow (gw S') h1, dkOf_grow (gw S') h2, dkOf_grow (gw S') h3⟩
  refine go_fldV (hx []).1 (f := "order") (d := a0) rfl ?_
  refine walk_lr (hx []).2.1 ?_
  rw [show S.names.map D.str = S.map (fun y => D.str y.1) by unfold SgS.names; rw [List.map_map]; rfl] at h1 ⊢
  refine forL_inv (fun ds δ W' => ∃ (us vs : SgS) (z : Option D), W' = sgW W p a b c vs ∧ ds = us.map (fun y => D.str y.1) ∧ vs ++ us = S ∧ δ = [some x, some (.ptr p), z]) ⟨S, [], none, rfl, rfl, rfl, rfl⟩ ?_ ?_ ?_
  · rintro ds δ W' ⟨us, vs, z, rfl, _⟩
    exact okOf_lr h1 (gw vs)
  · rintro d' ds δ W' N ⟨us, vs, z, rfl, e1, e2, rfl⟩ kk
    cases us with
    | nil => cases e1
    | cons y us =>
      rw [List.map_cons] at e1
      cases e1
      obtain ⟨k0, k1, k2, k3⟩ := hx vs
      have hy : y ∈ S := by rw [← e2]; simp
      have hf := SgS.find_mem hv.nd hy
      unfold b1_Signature_copy
      walk_at "rd"
      refine ⟨⟨_, objOf_sgp d, rfl⟩, ?_⟩
      walk_at "rd"
      refine go_fldV k0 (f := "arities") (d := b0) rfl ?_
      walk_at "rd"
      refine go_ixO k2 (k := .inr y.1) rfl (look_ars (f := y.2.2) hf) ?_
      walk_at "rd"
      refine go_fldV k0 (f := "flags") (d := c0) rfl ?_
      walk_at "rd"
      refine go_ixO k3 (k := .inr y.1) rfl (look_flgs (r := y.2.1) hf) ?_
      walk_at "rd"
      obtain ⟨n1, n2, n3⟩ := hv.ok y hy
      have hlen := congrArg List.length e2
      rw [List.length_append, List.length_cons] at hlen
      have nn : y.1 ∉ vs.names := fun h => by
        have nd := hv.nd
        rw [← e2] at nd
        unfold SgS.names at nd h
        rw [List.map_append, List.map_cons, List.nodup_append] at nd
        exact nd.2.2 _ h _ List.mem_cons_self rfl
      refine ⟨rfl, rfl, ?_⟩
      simp only [pick, List.getElem?_cons_zero, List.getElem?_cons_succ, Option.toList_some, List.cons_append, List.nil_append]
      refine gc_declare d (by have := (isName_len n1).2; omega) (by omega) (spDecl_ok n1 n2.1 n2.2 n3 nn (by omega) ?_)
      walk_at "rd"
      exact kk _ _ ⟨us, vs ++ [y], _, rfl, rfl, by rw [← e2]; simp, rfl⟩
  · rintro δ W' ⟨us, vs, z, rfl, e1, e2, rfl⟩
    cases us with
    | cons _ _ => cases e1
    | nil =>
      rw [List.append_nil] at e2
      subst e2
      walk_at "rd"
      exact q p a b c d hp wa wb wc

theorem sc_Signature_copy : FnScope ["self", "result", "name"] ["self"] (defScope s_Signature_copy) := ⟨rfl, rfl, rfl, by decide +kernel, rfl, by decide +kernel, by decide +kernel⟩
theorem ok_Signature_copy {P : Program} {w : World} {K : PySem.W.Frag} {mg : Str → Option Value} {base : Heap} {k : Nat}  (F : DfB K (He.ma K (He.ga K "Signature") "copy") "copy" "Signature.copy" s_Signature_copy [] []) {j : Nat} (hj : j + 1 ≤ k) (j_Signature : FkM P w K mg base CX0 j (He.ma K (He.ga K "Signature") "__init__") ["self"] (sp_Signature___init__)) (mk_Signature : Mk K (He.ga K "Signature") (He.ma K (He.ga K "Signature") "__init__")) (gl_Signature : mg "Signature" = some (.ref (He.ga K "Signature"))) (k_Signature : Cls K (He.ga K "Signature")) (a_Signature_order : NoAttr K (He.ga K "Signature") "order") (n_Signature_declare_3_commutative : FkN P w K mg base (L2.CX P w) k (He.ma K (He.ga K "Signature") "declare") ["self", "name", "arity", "commutative"] 3 ["commutative"] [.p 0, .p 1, .p 2, .k 0] [] (sp_Signature_declare)) (m_Signature_declare : Meth K (He.ga K "Signature") "declare" (He.ma K (He.ga K "Signature") "declare")) (a_Signature_arities : NoAttr K (He.ga K "Signature") "arities") (a_Signature_flags : NoAttr K (He.ga K "Signature") "flags") : FkB P w K mg base CX0 (k + 1) (He.ma K (He.ga K "Signature") "copy") "copy" "Signature.copy" s_Signature_copy [] [] ["self"] (sp_Signature_copy) := by
  have sc := sc_Signature_copy
  exact okB F sc len_Signature_copy fun cdv A outer s H E G hr hgd => ⟨_, a_Signature_copy ,
    dss_cons (ds_set (i := 1) sc.nd rfl (.inl rfl) (de_make0K K (E := fun _ => E0) (fun _ => passA0) liftS_none mk_Signature j_Signature gl_Signature (hr.mono hj) hgd)) (dss_cons (ds_for PassesOwn.never rfl (di_seq (de_fldK K "Signature" k_Signature a_Signature_order (dv 0))) (dg_name (i := 2) sc.nd rfl (.inl rfl)) (dss_one (ds_expr (de_methNK (n := 2) (ks := ["commutative"]) (src := [.p 0, .p 1, .p 2, .k 0]) (ms := []) (md := []) K (E := fun _ => E0) passNo liftS_none k_Signature m_Signature_declare n_Signature_declare_3_commutative (fun _ => rfl) hr hgd (dv 1) (da_cons (dv 2) (da_cons (de_ix (ix_all (hu_of hr)) sr_ix (de_fldK K "Signature" k_Signature a_Signature_arities (dv 0)) (dv 2)) (da_nil))) (dk_cons (de_ix (ix_all (hu_of hr)) sr_ix (de_fldK K "Signature" k_Signature a_Signature_flags (dv 0)) (dv 2)) (dk_nil)))))) (dss_one (ds_ret (dv 1)))),
    fun ds W QD ED h => rd_Signature_copy h⟩
/-- a theory's cells and what stands in them -/
structure Thy where
  T : Addr
  p : Addr
  a : Addr
  b : Addr
  c : Addr
  e : Addr
  k : Addr
  S : SgS
  n : Int
  E : List (Int × Trm × Trm)
def Thy.cells (t : Thy) : List Addr := [t.T, t.p, t.a, t.b, t.c, t.e, t.k]
def teqD (E : List (Int × Trm × Trm)) : List (Key × D) := E.map fun z => (Sum.inl z.1, .tup [z.2.1.d, z.2.2.d])
def thyM (t : Thy) : MO := .obj "Theory" [("signature", .ptr t.p), ("equations", .ptr t.e), ("next_number", .int t.n), ("book", .ptr t.k)]
structure ThyO (W : Wd) (t : Thy) : Prop where
  wT : W t.T = some (thyM t)
  sg : SgO W t.p t.a t.b t.c t.S
  we : W t.e = some (.dk (teqD t.E))
  wk : W t.k = some abM
  nd : t.cells.Nodup
theorem ThyO.keep {W W' : Wd} {t : Thy} (h : ThyO W t) (k : ∀ z ∈ t.cells, W' z = W z) : ThyO W' t where
  wT := by rw [k _ (by simp [Thy.cells])]; exact h.wT
  sg := h.sg.keep fun z hz => k z (by unfold Thy.cells; rcases hz with rfl | rfl | rfl | rfl <;> simp)
  we := by rw [k _ (by simp [Thy.cells])]; exact h.we
  wk := by rw [k _ (by simp [Thy.cells])]; exact h.wk
  nd := h.nd
theorem ThyO.grow {W W' : Wd} {t : Thy} (h : ThyO W t) (g : Grow W W') : ThyO W' t := ⟨g _ _ h.wT, h.sg.grow g, g _ _ h.we, g _ _ h.wk, h.nd⟩
def sp_Theory___init__ : SpD := fun ds W Q _ => ∃ (T : Addr) (x : D) (S : SgS), ds = [.ptr T, x] ∧ W T = some (.obj "Theory" []) ∧ SgAt W x S ∧ SgV S ∧
  ∀ (t : Thy) W', t.T = T → t.S = S → t.n = 0 → t.E = [] → ThyO W' t → (∀ z ∈ t.cells, z ≠ T → W z = none) → (∀ z m, z ≠ T → W z = some m → W' z = some m) → Q .non W'
theorem len_Theory___init__ : ∀ ds W Q E, sp_Theory___init__ ds W Q E → ds.length = 2 := by
  rintro ds W Q E ⟨_, _, _, rfl, _⟩; rfl
theorem gc_Theory {T : Addr} {x : D} {S : SgS} {W : Wd} {Q : DQ} {E : DX} (h1 : W T = some (.obj "Theory" [])) (h2 : SgAt W x S) (h3 : SgV S) (k : ∀ (t : Thy) W', t.T = T → t.S = S → t.n = 0 → t.E = [] → ThyO W' t → (∀ z ∈ t.cells, z ≠ T → W z = none) → (∀ z m, z ≠ T → W z = some m → W' z = some m) → Q .non W') : sp_Theory___init__ [.ptr T, x] W Q E := ⟨T, x, S, rfl, h1, h2, h3, k⟩

abbrev n_Theory___init__ : List Str := ["self", "signature"]
theorem sd_Theory___init__ (x0 x1 : D) : startD n_Theory___init__ [x0, x1] = [some x0, some x1] := rfl
def a_Theory___init__  : AS := aSeq (aFldS "Theory" "signature" (aVar 0) (aMeth "Signature" "copy" (sp_Signature_copy) [] AW.none (aVar 1) aNil)) (aSeq (aFldS "Theory" "equations" (aVar 0) (aDk0)) (aSeq (aFldS "Theory" "next_number" (aVar 0) (aC (.int 0))) (aFldS "Theory" "book" (aVar 0) (aMake "AnswerBook" (sp_AnswerBook___init__) [] AW.none aNil))))
theorem rd_Theory___init__ {ds : List D} {W : Wd} {Q : DQ} {E : DX} (h : sp_Theory___init__ ds W Q E) : a_Theory___init__ (EN Q) (startD n_Theory___init__ ds) W := by
  obtain ⟨T, x, S, rfl, hT, sg, hv, q⟩ := h
  obtain ⟨a0, b0, c0, h0, _⟩ := id sg
  unfold a_Theory___init__
  walk_at "rd"
  refine ⟨⟨_, h0, rfl⟩, ?_⟩
  walk_at "rd"
  refine gc_copy sg hv fun p a b c d hp ha hb hc => ?_
  have n1 : T ≠ p := fun e => by rw [e, hp] at hT; cases hT
  have n2 : T ≠ a := fun e => by rw [e, ha] at hT; cases hT
  have n3 : T ≠ b := fun e => by rw [e, hb] at hT; cases hT
  have n4 : T ≠ c := fun e => by rw [e, hc] at hT; cases hT
  have so : SgO (sgW W p a b c S) p a b c S := SgO.of d
  have hT1 : (sgW W p a b c S) T = some (.obj "Theory" []) := by rw [sgW_ne n1 n2 n3 n4]; exact hT
  have g1 : Grow W (sgW W p a b c S) := fun z m e => by
    rw [sgW_ne (fun h => by rw [h, hp] at e; cases e) (fun h => by rw [h, ha] at e; cases e) (fun h => by rw [h, hb] at e; cases e) (fun h => by rw [h, hc] at e; cases e)]
    exact e
  generalize sgW W p a b c S = W1 at so hT1 g1 ⊢
  walk_at "rd"
  refine go_fldP (fs := []) (fs' := [("signature", .ptr p)]) hT1 (by simp) rfl ?_
  walk_at "rd"
  intro e he
  have ne : T ≠ e := fun h => by rw [← h, Wd.set_same] at he; cases he
  have he1 : W1 e = none := by rwa [Wd.set_ne (Ne.symm ne)] at he
  have nn : ∀ {x : Addr} {m : MO}, W1 x = some m → x ≠ e := fun h e' => by rw [e', he1] at h; cases h
  walk_at "rd"
  refine go_fldP (fs := [("signature", .ptr p)]) (fs' := [("signature", .ptr p), ("equations", .ptr e)]) (by rw [Wd.set_ne ne, Wd.set_same]) (by simp) (by rfl) ?_
  walk_at "rd"
  refine go_fldP (fs := [("signature", .ptr p), ("equations", .ptr e)]) (fs' := [("signature", .ptr p), ("equations", .ptr e), ("next_number", .int 0)]) (Wd.set_same ..) (by simp) (by rfl) ?_
  rw [Wd.set_set, Wd.set_comm (Ne.symm ne), Wd.set_set]
  have k1 : ∀ z, z ≠ T → z ≠ e → ((W1.set T (.obj "Theory" [("signature", .ptr p), ("equations", .ptr e), ("next_number", .int 0)])).set e (.dk [])) z = W1 z := fun z h1 h2 => by rw [Wd.set_ne h2, Wd.set_ne h1]
  have we : ((W1.set T (.obj "Theory" [("signature", .ptr p), ("equations", .ptr e), ("next_number", .int 0)])).set e (.dk [])) e = some (.dk []) := Wd.set_same ..
  have wT : ((W1.set T (.obj "Theory" [("signature", .ptr p), ("equations", .ptr e), ("next_number", .int 0)])).set e (.dk [])) T = some (.obj "Theory" [("signature", .ptr p), ("equations", .ptr e), ("next_number", .int 0)]) := by rw [Wd.set_ne ne, Wd.set_same]
  have so2 : SgO ((W1.set T (.obj "Theory" [("signature", .ptr p), ("equations", .ptr e), ("next_number", .int 0)])).set e (.dk [])) p a b c S := so.keep fun z hz => by
    rcases hz with rfl | rfl | rfl | rfl
    · exact k1 _ (Ne.symm n1) (nn so.wp)
    · exact k1 _ (Ne.symm n2) (nn so.wa)
    · exact k1 _ (Ne.symm n3) (nn so.wb)
    · exact k1 _ (Ne.symm n4) (nn so.wc)
  have m1 := nn so.wp
  have m2 := nn so.wa
  have m3 := nn so.wb
  have m4 := nn so.wc
  generalize (W1.set T (.obj "Theory" [("signature", .ptr p), ("equations", .ptr e), ("next_number", .int 0)])).set e (.dk []) = W2 at k1 we wT so2 ⊢
  walk_at "rd"
  intro k hk
  have nk : ∀ {x : Addr} {m : MO}, W2 x = some m → x ≠ k := fun h e' => by rw [e', hk] at h; cases h
  refine gc_AnswerBook (Wd.set_same ..) ⟨rfl, ?_⟩
  rw [Wd.set_set]
  walk_at "rd"
  refine go_fldP (fs := [("signature", .ptr p), ("equations", .ptr e), ("next_number", .int 0)]) (fs' := [("signature", .ptr p), ("equations", .ptr e), ("next_number", .int 0), ("book", .ptr k)]) (by rw [Wd.set_ne (nk wT)]; exact wT) (by simp) (by rfl) ?_
  have hk1 : W1 k = none := by rw [← k1 k (Ne.symm (nk wT)) (Ne.symm (nk we))]; exact hk
  have gn : ∀ {z : Addr}, W1 z = none → W z = none := fun {z} h => by
    cases e' : W z with
    | none => rfl
    | some m => rw [g1 _ _ e'] at h; cases h
  refine q ⟨T, p, a, b, c, e, k, S, 0, []⟩ _ rfl rfl rfl rfl ⟨Wd.set_same .., so2.keep fun z hz => ?_, ?_, ?_, ?_⟩ (fun z hz hzT => ?_) (fun z m hzT hz => ?_)
  · rcases hz with rfl | rfl | rfl | rfl
    · rw [Wd.set_ne (Ne.symm n1), Wd.set_ne (nk so2.wp)]
    · rw [Wd.set_ne (Ne.symm n2), Wd.set_ne (nk so2.wa)]
    · rw [Wd.set_ne (Ne.symm n3), Wd.set_ne (nk so2.wb)]
    · rw [Wd.set_ne (Ne.symm n4), Wd.set_ne (nk so2.wc)]
  · show _ = some (MO.dk [])
    rw [Wd.set_ne (Ne.symm ne), Wd.set_ne (nk we)]; exact we
  · rw [Wd.set_ne (Ne.symm (nk wT)), Wd.set_same]
  · have j1 := nk wT
    have j2 := nk so2.wp
    have j3 := nk so2.wa
    have j4 := nk so2.wb
    have j5 := nk so2.wc
    have j6 := nk we
    show ([T, p, a, b, c, e, k] : List Addr).Nodup
    simp only [List.nodup_cons, List.mem_cons, List.not_mem_nil, or_false, not_or, not_false_eq_true, List.nodup_nil, and_true]
    exact ⟨⟨n1, n2, n3, n4, ne, j1⟩, ⟨d.pa, d.pb, d.pc, m1, j2⟩, ⟨d.ab, d.ac, m2, j3⟩, ⟨d.bc, m3, j4⟩, ⟨m4, j5⟩, j6⟩
  · simp only [Thy.cells, List.mem_cons, List.not_mem_nil, or_false] at hz
    rcases hz with rfl | rfl | rfl | rfl | rfl | rfl | rfl
    · exact absurd rfl hzT
    · exact hp
    · exact ha
    · exact hb
    · exact hc
    · exact gn he1
    · exact gn hk1
  · have hz1 := g1 _ _ hz
    have a1 : z ≠ e := nn hz1
    have a2 : z ≠ k := fun h => by rw [h, hk1] at hz1; cases hz1
    rw [Wd.set_ne hzT, Wd.set_ne a2, k1 z hzT a1]
    exact hz1

theorem sc_Theory___init__ : FnScope ["self", "signature"] ["self", "signature"] (defScope s_Theory___init__) := ⟨rfl, rfl, rfl, by decide +kernel, rfl, by decide +kernel, by decide +kernel⟩
theorem ok_Theory___init__ {P : Program} {w : World} {K : PySem.W.Frag} {mg : Str → Option Value} {base : Heap} {k : Nat}  (F : DfB K (He.ma K (He.ga K "Theory") "__init__") "__init__" "Theory.__init__" s_Theory___init__ [] []) {j : Nat} (hj : j + 1 ≤ k) (b_Signature_copy : FkM P w K mg base CX0 k (He.ma K (He.ga K "Signature") "copy") ["self"] (sp_Signature_copy)) (m_Signature_copy : Meth K (He.ga K "Signature") "copy" (He.ma K (He.ga K "Signature") "copy")) (k_Signature : Cls K (He.ga K "Signature")) (k_Theory : Cls K (He.ga K "Theory")) (a_Theory_signature : NoAttr K (He.ga K "Theory") "signature") (a_Theory_equations : NoAttr K (He.ga K "Theory") "equations") (a_Theory_next_number : NoAttr K (He.ga K "Theory") "next_number") (j_AnswerBook : FkM P w K mg base CX0 j (He.ma K (He.ga K "AnswerBook") "__init__") ["self"] (sp_AnswerBook___init__)) (mk_AnswerBook : Mk K (He.ga K "AnswerBook") (He.ma K (He.ga K "AnswerBook") "__init__")) (gl_AnswerBook : mg "AnswerBook" = some (.ref (He.ga K "AnswerBook"))) (a_Theory_book : NoAttr K (He.ga K "Theory") "book") : FkB P w K mg base CX0 (k + 1) (He.ma K (He.ga K "Theory") "__init__") "__init__" "Theory.__init__" s_Theory___init__ [] [] ["self", "signature"] (sp_Theory___init__) := by
  have sc := sc_Theory___init__
  exact okB F sc len_Theory___init__ fun cdv A outer s H E G hr hgd => ⟨_, a_Theory___init__ ,
    dss_cons (ds_fldK K "Theory" k_Theory a_Theory_signature (dv 0) (de_meth0K K (E := fun _ => E0) (fun _ => passA0) liftS_none k_Signature m_Signature_copy b_Signature_copy hr hgd (dv 1))) (dss_cons (ds_fldK K "Theory" k_Theory a_Theory_equations (dv 0) (de_dk0)) (dss_cons (ds_fldK K "Theory" k_Theory a_Theory_next_number (dv 0) (de_int)) (dss_one (ds_fldK K "Theory" k_Theory a_Theory_book (dv 0) (de_make0K K (E := fun _ => E0) (fun _ => passA0) liftS_none mk_AnswerBook j_AnswerBook gl_AnswerBook (hr.mono hj) hgd))))),
    fun ds W QD ED h => rd_Theory___init__ h⟩
def eqOf (E : List (Int × Trm × Trm)) (n : Int) : Option (Trm × Trm) := (E.find? fun z => decide (z.1 = n)).map (·.2)
theorem look_eq (E : List (Int × Trm × Trm)) (n : Int) : look (teqD E) (.inl n) = (eqOf E n).map fun z => .tup [z.1.d, z.2.d] := by
  unfold eqOf
  induction E with
  | nil => rfl
  | cons y E ih =>
    unfold teqD look at ih ⊢
    rw [List.map_cons, List.find?_cons, List.find?_cons]
    by_cases h : y.1 = n
    · subst h; simp
    · rw [decide_eq_false h, decide_eq_false (fun e => h (Sum.inl.inj e))]
      exact ih
def sp_Theory_equation : SpD := fun ds W Q E => ∃ (t : Thy) (n : Int), ds = [.ptr t.T, .int n] ∧ ThyO W t ∧ (∀ z, eqOf t.E n = some z → Q (.tup [z.1.d, z.2.d]) W) ∧ (eqOf t.E n = none → E "NotFound" [] W)
theorem len_Theory_equation : ∀ ds W Q E, sp_Theory_equation ds W Q E → ds.length = 2 := by
  rintro ds W Q E ⟨_, _, rfl, _⟩; rfl
theorem gc_equation {t : Thy} {n : Int} {W : Wd} {Q : DQ} {E : DX} (h : ThyO W t) (k : ∀ z, eqOf t.E n = some z → Q (.tup [z.1.d, z.2.d]) W) (k' : eqOf t.E n = none → E "NotFound" [] W) : sp_Theory_equation [.ptr t.T, .int n] W Q E := ⟨t, n, rfl, h, k, k'⟩

abbrev n_Theory_equation : List Str := ["self", "number"]
theorem sd_Theory_equation (x0 x1 : D) : startD n_Theory_equation [x0, x1] = [some x0, some x1] := rfl
def a_Theory_equation  (WD : AW) : AS := aSeq (aIfS (aTest (aOp (dIn true) (aVar 1) (aFld "Theory" "equations" (aVar 0)))) (aRaise "NotFound" WD) (aNext)) (aRet (aOp dIx (aFld "Theory" "equations" (aVar 0)) (aVar 1)))
theorem rd_Theory_equation {ds : List D} {W : Wd} {Q : DQ} {E : DX} (h : sp_Theory_equation ds W Q E) : a_Theory_equation (fun _ => E) (EN Q) (startD n_Theory_equation ds) W := by
  obtain ⟨t, n, rfl, ht, q, q'⟩ := h
  unfold a_Theory_equation
  walk_at "rd"
  refine go_fldV (objOf_ptr ht.wT) (f := "equations") (d := .ptr t.e) (by rfl) ?_
  refine go_ninO (dkOf_ptr ht.we) (k := .inl n) rfl ?_
  rw [look_eq]
  cases e : eqOf t.E n with
  | none =>
    walk_at "rd"
    exact q' e
  | some z =>
    walk_at "rd"
    refine go_fldV (objOf_ptr ht.wT) (f := "equations") (d := .ptr t.e) (by rfl) ?_
    walk_at "rd"
    refine go_ixO (dkOf_ptr ht.we) (k := .inl n) rfl (by rw [look_eq, e]; rfl) ?_
    exact q z e

theorem sc_Theory_equation : FnScope ["self", "number"] ["self", "number"] (defScope s_Theory_equation) := ⟨rfl, rfl, rfl, by decide +kernel, rfl, by decide +kernel, by decide +kernel⟩
theorem ok_Theory_equation {P : Program} {w : World} {K : PySem.W.Frag} {mg : Str → Option Value} {base : Heap} {k : Nat}  (F : DfB K (He.ma K (He.ga K "Theory") "equation") "equation" "Theory.equation" s_Theory_equation [] []) (k_Theory : Cls K (He.ga K "Theory")) (a_Theory_equations : NoAttr K (He.ga K "Theory") "equations") (ex_NotFound : ExcK K mg "NotFound") : FkB P w K mg base (L2.CX P w) (k + 1) (He.ma K (He.ga K "Theory") "equation") "equation" "Theory.equation" s_Theory_equation [] [] ["self", "number"] (sp_Theory_equation) := by
  have sc := sc_Theory_equation
  exact okX (a := a_Theory_equation ) F sc len_Theory_equation (fun cdv A outer s H E G WD hr hgd htk hpo hl => ⟨_,
    dss_cons (ds_if (dt_cmp (op_notInA (hu151 hr)) sr_in (dv 1) (de_fldK K "Theory" k_Theory a_Theory_equations (dv 0)) (by rfl)) (dss_one (ds_raise0 K rfl htk hl ex_NotFound)) (dss_nil)) (dss_one (ds_ret (de_ix (ix_all (hu_of hr)) sr_ix (de_fldK K "Theory" k_Theory a_Theory_equations (dv 0)) (dv 1))))⟩)
    (fun ds W QD ED h => rd_Theory_equation h)
theorem teq_put {E : List (Int × Trm × Trm)} {n : Int} {l r : Trm} (h : ∀ z ∈ E, z.1 < n) : dput (teqD E) (.inl n) (.tup [l.d, r.d]) = teqD (E ++ [(n, l, r)]) := by
  rw [put_new]
  · unfold teqD; rw [List.map_append]; rfl
  · rw [look_eq]
    have : eqOf E n = none := by
      unfold eqOf
      rw [Option.map_eq_none_iff, List.find?_eq_none]
      intro z hz e
      have := h z hz
      have := of_decide_eq_true e
      omega
    rw [this]; rfl
/-- the theory after an addition -/
def Thy.plus (t : Thy) (l r : Trm) : Thy := { t with n := t.n + 1, E := t.E ++ [(t.n, l, r)] }
def sp_Theory_add : SpD := fun ds W Q E => ∃ (t : Thy) (ops : Sig) (l r : Trm), ds = [.ptr t.T, l.d, r.d] ∧ ThyO W t ∧ t.S = sg0 ops ∧ (ops.map Prod.fst).Nodup ∧ (∀ z ∈ t.E, z.1 < t.n) ∧ t.E.length ≤ 1000 ∧ (l.depth ≤ 30 ∧ l.size ≤ 400) ∧ (r.depth ≤ 30 ∧ r.size ≤ 400) ∧
  (∀ z, (l.bad ops).or (r.bad ops) = some z → E (excB z) [("name", .str z.2)] W) ∧ (l.bad ops = none → r.bad ops = none → (∃ v ∈ l.vars ++ r.vars, 9 < v) → E "TooLarge" [] W) ∧
  (l.bad ops = none → r.bad ops = none → (∀ v ∈ l.vars ++ r.vars, v ≤ 9) → ∀ W', ThyO W' (t.plus l r) → (∀ z, z ≠ t.T → z ≠ t.e → W' z = W z) → Q (.int t.n) W')
theorem len_Theory_add : ∀ ds W Q E, sp_Theory_add ds W Q E → ds.length = 3 := by
  rintro ds W Q E ⟨_, _, _, _, rfl, _⟩; rfl
theorem gc_add {t : Thy} {ops : Sig} {l r : Trm} {W : Wd} {Q : DQ} {E : DX} (h1 : ThyO W t) (h2 : t.S = sg0 ops) (h3 : (ops.map Prod.fst).Nodup) (h4 : ∀ z ∈ t.E, z.1 < t.n) (h5 : t.E.length ≤ 1000) (h6 : l.depth ≤ 30 ∧ l.size ≤ 400) (h7 : r.depth ≤ 30 ∧ r.size ≤ 400)
  (k1 : ∀ z, (l.bad ops).or (r.bad ops) = some z → E (excB z) [("name", .str z.2)] W) (k2 : l.bad ops = none → r.bad ops = none → (∃ v ∈ l.vars ++ r.vars, 9 < v) → E "TooLarge" [] W)
  (k3 : l.bad ops = none → r.bad ops = none → (∀ v ∈ l.vars ++ r.vars, v ≤ 9) → ∀ W', ThyO W' (t.plus l r) → (∀ z, z ≠ t.T → z ≠ t.e → W' z = W z) → Q (.int t.n) W') : sp_Theory_add [.ptr t.T, l.d, r.d] W Q E := ⟨t, ops, l, r, rfl, h1, h2, h3, h4, h5, h6, h7, k1, k2, k3⟩
theorem Thy.dis {W : Wd} {t : Thy} (h : ThyO W t) : (t.T ≠ t.p ∧ t.T ≠ t.a ∧ t.T ≠ t.b ∧ t.T ≠ t.c ∧ t.T ≠ t.e ∧ t.T ≠ t.k) ∧ (t.p ≠ t.e ∧ t.a ≠ t.e ∧ t.b ≠ t.e ∧ t.c ≠ t.e ∧ t.e ≠ t.k) := by
  have nd := h.nd
  simp only [Thy.cells, List.nodup_cons, List.mem_cons, List.not_mem_nil, or_false, not_or] at nd
  obtain ⟨⟨a1, a2, a3, a4, a5, a6⟩, ⟨_, _, _, b1, _⟩, ⟨_, _, c1, _⟩, ⟨_, d1, _⟩, ⟨e1, _⟩, f1, _⟩ := nd
  exact ⟨⟨a1, a2, a3, a4, a5, a6⟩, b1, c1, d1, e1, f1⟩

abbrev n_Theory_add : List Str := ["self", "left", "right", "number"]
theorem sd_Theory_add (x0 x1 x2 : D) : startD n_Theory_add [x0, x1, x2] = [some x0, some x1, some x2, none] := rfl
def a_Theory_add  (WD : AW) : AS := aSeq (aDrop (aCallX (sp_check_equation) [] WD (aCons (aFld "Theory" "signature" (aVar 0)) (aCons (aVar 1) (aCons (aVar 2) (aNil)))))) (aSeq (aAsg (aFld "Theory" "next_number" (aVar 0)) (agName 3)) (aSeq (aAsg (aTup (aCons (aVar 1) (aCons (aVar 2) (aNil)))) (agSub (aFld "Theory" "equations" (aVar 0)) (aVar 3) dSet)) (aSeq (aFldS "Theory" "next_number" (aVar 0) (aOp (dAdd true) (aVar 3) (aC (.int 1)))) (aSeq (aDrop (aMeth "AnswerBook" "added" (sp_AnswerBook_added) [] AW.none (aFld "Theory" "book" (aVar 0)) (aCons (aVar 1) (aCons (aVar 2) (aNil))))) (aRet (aVar 3))))))
theorem rd_Theory_add {ds : List D} {W : Wd} {Q : DQ} {E : DX} (h : sp_Theory_add ds W Q E) : a_Theory_add (fun _ => E) (EN Q) (startD n_Theory_add ds) W := by
  obtain ⟨t, ops, l, r, rfl, ht, hS, nd, hE, hl, h6, h7, k1, k2, k3⟩ := h
  obtain ⟨⟨n1, n2, n3, n4, n5, n6⟩, m1, m2, m3, m4, m5⟩ := Thy.dis ht
  have sg := ht.sg.at'
  rw [hS] at sg
  unfold a_Theory_add
  walk_at "rd"
  refine go_fldV (objOf_ptr ht.wT) (f := "signature") (d := .ptr t.p) (by rfl) ?_
  walk_at "rd"
  refine gc_check_equation sg nd h6 h7 k1 k2 fun e1 e2 e3 => ?_
  have k3 := k3 e1 e2 e3
  walk_at "rd"
  refine go_fldV (objOf_ptr ht.wT) (f := "next_number") (d := .int t.n) (by rfl) ?_
  walk_at "rd"
  refine go_fldV (objOf_ptr ht.wT) (f := "equations") (d := .ptr t.e) (by rfl) ?_
  walk_at "rd"
  refine go_setDk (kds := teqD t.E) (k := .inl t.n) ht.we rfl (by unfold teqD; rw [List.length_map, sizeLine_val]; omega) ?_
  rw [teq_put hE]
  walk_at "rd"
  refine go_fldP (fs := [("signature", .ptr t.p), ("equations", .ptr t.e), ("next_number", .int t.n), ("book", .ptr t.k)]) (fs' := [("signature", .ptr t.p), ("equations", .ptr t.e), ("next_number", .int (t.n + 1)), ("book", .ptr t.k)]) (by rw [Wd.set_ne n5]; exact ht.wT) (by simp) (by rfl) ?_
  have hT2 : ThyO ((W.set t.e (.dk (teqD (t.E ++ [(t.n, l, r)])))).set t.T (.obj "Theory" [("signature", .ptr t.p), ("equations", .ptr t.e), ("next_number", .int (t.n + 1)), ("book", .ptr t.k)])) (t.plus l r) := by
    refine ⟨Wd.set_same .., ht.sg.keep fun z hz => ?_, ?_, ?_, ht.nd⟩
    · rcases hz with rfl | rfl | rfl | rfl
      · rw [Wd.set_ne (Ne.symm n1), Wd.set_ne m1]
      · rw [Wd.set_ne (Ne.symm n2), Wd.set_ne m2]
      · rw [Wd.set_ne (Ne.symm n3), Wd.set_ne m3]
      · rw [Wd.set_ne (Ne.symm n4), Wd.set_ne m4]
    · show ((W.set t.e _).set t.T _) t.e = some (MO.dk (teqD (t.E ++ [(t.n, l, r)])))
      rw [Wd.set_ne (Ne.symm n5), Wd.set_same]
    · show ((W.set t.e _).set t.T _) t.k = _
      rw [Wd.set_ne (Ne.symm n6), Wd.set_ne (Ne.symm m5)]; exact ht.wk
  have kp : ∀ z, z ≠ t.T → z ≠ t.e → ((W.set t.e (.dk (teqD (t.E ++ [(t.n, l, r)])))).set t.T (.obj "Theory" [("signature", .ptr t.p), ("equations", .ptr t.e), ("next_number", .int (t.n + 1)), ("book", .ptr t.k)])) z = W z := fun z h1 h2 => by rw [Wd.set_ne h1, Wd.set_ne h2]
  generalize (W.set t.e (.dk (teqD (t.E ++ [(t.n, l, r)])))).set t.T (.obj "Theory" [("signature", .ptr t.p), ("equations", .ptr t.e), ("next_number", .int (t.n + 1)), ("book", .ptr t.k)]) = W2 at hT2 kp ⊢
  walk_at "rd"
  refine go_fldV (objOf_ptr hT2.wT) (f := "book") (d := .ptr t.k) (by rfl) ?_
  have hk2 : W2 t.k = some abM := hT2.wk
  refine ⟨⟨_, objOf_ptr hk2, rfl⟩, ?_⟩
  walk_at "rd"
  refine gc_book_added hk2 ?_
  walk_at "rd"
  exact k3 W2 hT2 kp

theorem sc_Theory_add : FnScope ["self", "left", "right", "number"] ["self", "left", "right"] (defScope s_Theory_add) := ⟨rfl, rfl, rfl, by decide +kernel, rfl, by decide +kernel, by decide +kernel⟩
theorem ok_Theory_add {P : Program} {w : World} {K : PySem.W.Frag} {mg : Str → Option Value} {base : Heap} {k : Nat}  (F : DfB K (He.ma K (He.ga K "Theory") "add") "add" "Theory.add" s_Theory_add [] []) (b_check_equation : FkM P w K mg base (L2.CX P w) k (He.ga K "check_equation") ["signature", "left", "right"] (sp_check_equation)) (kp_check_equation : PySem.W.keepIn K (.ref (He.ga K "check_equation")) = true) (k_Theory : Cls K (He.ga K "Theory")) (a_Theory_signature : NoAttr K (He.ga K "Theory") "signature") (gl_check_equation : mg "check_equation" = some (.ref (He.ga K "check_equation"))) (a_Theory_next_number : NoAttr K (He.ga K "Theory") "next_number") (a_Theory_equations : NoAttr K (He.ga K "Theory") "equations") (b_AnswerBook_added : FkM P w K mg base CX0 k (He.ma K (He.ga K "AnswerBook") "added") ["self", "left", "right"] (sp_AnswerBook_added)) (a_Theory_book : NoAttr K (He.ga K "Theory") "book") (m_AnswerBook_added : Meth K (He.ga K "AnswerBook") "added" (He.ma K (He.ga K "AnswerBook") "added")) (k_AnswerBook : Cls K (He.ga K "AnswerBook")) : FkB P w K mg base (L2.CX P w) (k + 1) (He.ma K (He.ga K "Theory") "add") "add" "Theory.add" s_Theory_add [] [] ["self", "left", "right"] (sp_Theory_add) := by
  have sc := sc_Theory_add
  exact okX (a := a_Theory_add ) F sc len_Theory_add (fun cdv A outer s H E G WD hr hgd htk hpo hl => ⟨_,
    dss_cons (ds_expr (de_callK K (fun σ => passAt htk σ) hl b_check_equation gl_check_equation kp_check_equation hr hgd (da_cons (de_fldK K "Theory" k_Theory a_Theory_signature (dv 0)) (da_cons (dv 1) (da_cons (dv 2) (da_nil)))))) (dss_cons (ds_set (i := 3) sc.nd rfl (.inl rfl) (de_fldK K "Theory" k_Theory a_Theory_next_number (dv 0))) (dss_cons (ds_asg (de_tup (da_cons (dv 1) (da_cons (dv 2) (da_nil)))) (dg_sub (de_fldK K "Theory" k_Theory a_Theory_equations (dv 0)) (dv 3) (set_all (hu_of hr)) set_sim)) (dss_cons (ds_fldK K "Theory" k_Theory a_Theory_next_number (dv 0) (de_op (op_addA) sr_add (dv 3) (de_int))) (dss_cons (ds_expr (de_methK K (E := fun _ => E0) (fun _ => passA0) liftS_none k_AnswerBook m_AnswerBook_added b_AnswerBook_added hr hgd (de_fldK K "Theory" k_Theory a_Theory_book (dv 0)) (da_cons (dv 1) (da_cons (dv 2) (da_nil))))) (dss_one (ds_ret (dv 3)))))))⟩)
    (fun ds W QD ED h => rd_Theory_add h)
/-- the theory after a drop -/
def Thy.less (t : Thy) (n : Int) : Thy := { t with E := t.E.filter fun z => decide (z.1 ≠ n) }
theorem teq_cut {E : List (Int × Trm × Trm)} {n : Int} : dcut (teqD E) (.inl n) = teqD (E.filter fun z => decide (z.1 ≠ n)) := by
  unfold dcut teqD
  rw [List.filter_map]
  congr 1
  refine List.filter_congr fun z _ => ?_
  show decide _ = decide _
  by_cases e : z.1 = n
  · simp [e]
  · simp [e]
def sp_Theory_drop : SpD := fun ds W Q E => ∃ (t : Thy) (n : Int), ds = [.ptr t.T, .int n] ∧ ThyO W t ∧
  (∀ z, eqOf t.E n = some z → ∀ W', ThyO W' (t.less n) → (∀ z, z ≠ t.e → W' z = W z) → Q (.tup [z.1.d, z.2.d]) W') ∧ (eqOf t.E n = none → E "NotFound" [] W)
theorem len_Theory_drop : ∀ ds W Q E, sp_Theory_drop ds W Q E → ds.length = 2 := by
  rintro ds W Q E ⟨_, _, rfl, _⟩; rfl
theorem gc_drop {t : Thy} {n : Int} {W : Wd} {Q : DQ} {E : DX} (h : ThyO W t) (k : ∀ z, eqOf t.E n = some z → ∀ W', ThyO W' (t.less n) → (∀ z, z ≠ t.e → W' z = W z) → Q (.tup [z.1.d, z.2.d]) W') (k' : eqOf t.E n = none → E "NotFound" [] W) : sp_Theory_drop [.ptr t.T, .int n] W Q E := ⟨t, n, rfl, h, k, k'⟩

abbrev n_Theory_drop : List Str := ["self", "number", "equation"]
theorem sd_Theory_drop (x0 x1 : D) : startD n_Theory_drop [x0, x1] = [some x0, some x1, none] := rfl
def a_Theory_drop  (WD : AW) : AS := aSeq (aAsg (aMeth "Theory" "equation" (sp_Theory_equation) [] WD (aVar 0) (aCons (aVar 1) (aNil))) (agName 2)) (aSeq (aDelS (aFld "Theory" "equations" (aVar 0)) (aVar 1)) (aSeq (aDrop (aMeth "AnswerBook" "dropped" (sp_AnswerBook_dropped) [] AW.none (aFld "Theory" "book" (aVar 0)) (aCons (aVar 1) (aNil)))) (aRet (aVar 2))))
theorem rd_Theory_drop {ds : List D} {W : Wd} {Q : DQ} {E : DX} (h : sp_Theory_drop ds W Q E) : a_Theory_drop (fun _ => E) (EN Q) (startD n_Theory_drop ds) W := by
  obtain ⟨t, n, rfl, ht, q, q'⟩ := h
  obtain ⟨⟨n1, n2, n3, n4, n5, n6⟩, m1, m2, m3, m4, m5⟩ := Thy.dis ht
  unfold a_Theory_drop
  walk_at "rd"
  refine ⟨⟨_, objOf_ptr ht.wT, rfl⟩, ?_⟩
  walk_at "rd"
  refine gc_equation ht (fun z e => ?_) q'
  have q := q z e
  walk_at "rd"
  refine go_del ?_
  walk_at "rd"
  refine go_fldV (objOf_ptr ht.wT) (f := "equations") (d := .ptr t.e) (by rfl) ?_
  walk_at "rd"
  refine ⟨t.e, teqD t.E, .inl n, _, rfl, ht.we, rfl, by rw [look_eq, e]; rfl, ?_⟩
  rw [teq_cut]
  have hT2 : ThyO (W.set t.e (.dk (teqD (t.E.filter fun z => decide (z.1 ≠ n))))) (t.less n) := by
    refine ⟨by show (W.set t.e _) t.T = _; rw [Wd.set_ne n5]; exact ht.wT, ht.sg.keep fun z hz => ?_, Wd.set_same .., by show (W.set t.e _) t.k = _; rw [Wd.set_ne (Ne.symm m5)]; exact ht.wk, ht.nd⟩
    rcases hz with rfl | rfl | rfl | rfl
    · exact Wd.set_ne m1
    · exact Wd.set_ne m2
    · exact Wd.set_ne m3
    · exact Wd.set_ne m4
  have kp : ∀ z, z ≠ t.e → (W.set t.e (.dk (teqD (t.E.filter fun z => decide (z.1 ≠ n))))) z = W z := fun z h2 => Wd.set_ne h2
  generalize W.set t.e (.dk (teqD (t.E.filter fun z => decide (z.1 ≠ n)))) = W2 at hT2 kp ⊢
  walk_at "rd"
  refine go_fldV (objOf_ptr hT2.wT) (f := "book") (d := .ptr t.k) (by rfl) ?_
  have hk2 : W2 t.k = some abM := hT2.wk
  refine ⟨⟨_, objOf_ptr hk2, rfl⟩, ?_⟩
  walk_at "rd"
  refine gc_book_dropped hk2 ?_
  walk_at "rd"
  exact q W2 hT2 kp

theorem sc_Theory_drop : FnScope ["self", "number", "equation"] ["self", "number"] (defScope s_Theory_drop) := ⟨rfl, rfl, rfl, by decide +kernel, rfl, by decide +kernel, by decide +kernel⟩
theorem ok_Theory_drop {P : Program} {w : World} {K : PySem.W.Frag} {mg : Str → Option Value} {base : Heap} {k : Nat}  (F : DfB K (He.ma K (He.ga K "Theory") "drop") "drop" "Theory.drop" s_Theory_drop [] []) (b_Theory_equation : FkM P w K mg base (L2.CX P w) k (He.ma K (He.ga K "Theory") "equation") ["self", "number"] (sp_Theory_equation)) (m_Theory_equation : Meth K (He.ga K "Theory") "equation" (He.ma K (He.ga K "Theory") "equation")) (k_Theory : Cls K (He.ga K "Theory")) (a_Theory_equations : NoAttr K (He.ga K "Theory") "equations") (b_AnswerBook_dropped : FkM P w K mg base CX0 k (He.ma K (He.ga K "AnswerBook") "dropped") ["self", "name"] (sp_AnswerBook_dropped)) (a_Theory_book : NoAttr K (He.ga K "Theory") "book") (m_AnswerBook_dropped : Meth K (He.ga K "AnswerBook") "dropped" (He.ma K (He.ga K "AnswerBook") "dropped")) (k_AnswerBook : Cls K (He.ga K "AnswerBook")) : FkB P w K mg base (L2.CX P w) (k + 1) (He.ma K (He.ga K "Theory") "drop") "drop" "Theory.drop" s_Theory_drop [] [] ["self", "number"] (sp_Theory_drop) := by
  have sc := sc_Theory_drop
  exact okX (a := a_Theory_drop ) F sc len_Theory_drop (fun cdv A outer s H E G WD hr hgd htk hpo hl => ⟨_,
    dss_cons (ds_set (i := 2) sc.nd rfl (.inl rfl) (de_methK K (fun σ => passAt htk σ) hl k_Theory m_Theory_equation b_Theory_equation hr hgd (dv 0) (da_cons (dv 1) (da_nil)))) (dss_cons (ds_del (de_fldK K "Theory" k_Theory a_Theory_equations (dv 0)) (dv 1)) (dss_cons (ds_expr (de_methK K (E := fun _ => E0) (fun _ => passA0) liftS_none k_AnswerBook m_AnswerBook_dropped b_AnswerBook_dropped hr hgd (de_fldK K "Theory" k_Theory a_Theory_book (dv 0)) (da_cons (dv 1) (da_nil)))) (dss_one (ds_ret (dv 2)))))⟩)
    (fun ds W QD ED h => rd_Theory_drop h)
def sp_Theory_sources : SpD := fun ds W Q _ => ∃ (t : Thy), ds = [.ptr t.T] ∧ ThyO W t ∧ (t.E.map (·.1)).Pairwise (· < ·) ∧ t.E.length < 60 ∧ ∀ p, W p = none → Q (.ptr p) (W.set p (.lst ((t.E.map (·.1)).map .int)))
theorem len_Theory_sources : ∀ ds W Q E, sp_Theory_sources ds W Q E → ds.length = 1 := by
  rintro ds W Q E ⟨_, rfl, _⟩; rfl
theorem gc_sources {t : Thy} {W : Wd} {Q : DQ} {E : DX} (h : ThyO W t) (h1 : (t.E.map (·.1)).Pairwise (· < ·)) (h2 : t.E.length < 60) (k : ∀ p, W p = none → Q (.ptr p) (W.set p (.lst ((t.E.map (·.1)).map .int)))) : sp_Theory_sources [.ptr t.T] W Q E := ⟨t, rfl, h, h1, h2, k⟩

abbrev n_Theory_sources : List Str := ["self"]
theorem sd_Theory_sources (x0 : D) : startD n_Theory_sources [x0] = [some x0] := rfl
def a_Theory_sources  : AS := aRet (aCB (dSort true) (aCons (aCB (dListK false) (aCons (aFld "Theory" "equations" (aVar 0)) (aNil))) (aNil)))
theorem rd_Theory_sources {ds : List D} {W : Wd} {Q : DQ} {E : DX} (h : sp_Theory_sources ds W Q E) : a_Theory_sources (EN Q) (startD n_Theory_sources ds) W := by
  obtain ⟨t, rfl, ht, hp, hl, q⟩ := h
  unfold a_Theory_sources
  walk_at "rd"
  refine go_fldV (objOf_ptr ht.wT) (f := "equations") (d := .ptr t.e) (by rfl) ?_
  walk_at "rd"
  refine go_listK (dkOf_ptr ht.we) ?_
  rw [newL_f]
  walk_at "rd"
  refine go_sortL (ns := t.E.map (·.1)) (by unfold teqD; rw [List.map_map, List.map_map]; rfl) fun ys p1 s1 => ?_
  have e : ys = t.E.map (·.1) := sortI_uniq p1 s1 (hp.imp fun h => by omega)
  subst e
  rw [newL_t]
  exact q

theorem sc_Theory_sources : FnScope ["self"] ["self"] (defScope s_Theory_sources) := ⟨rfl, rfl, rfl, by decide +kernel, rfl, by decide +kernel, by decide +kernel⟩
theorem ok_Theory_sources {P : Program} {w : World} {K : PySem.W.Frag} {mg : Str → Option Value} {base : Heap} {k : Nat}  (F : DfB K (He.ma K (He.ga K "Theory") "sources") "sources" "Theory.sources" s_Theory_sources [] []) (z_sorted : mg "sorted" = none) (z_list : mg "list" = none) (k_Theory : Cls K (He.ga K "Theory")) (a_Theory_equations : NoAttr K (He.ga K "Theory") "equations") : FkB P w K mg base CX0 (k + 1) (He.ma K (He.ga K "Theory") "sources") "sources" "Theory.sources" s_Theory_sources [] [] ["self"] (sp_Theory_sources) := by
  have sc := sc_Theory_sources
  exact okB F sc len_Theory_sources fun cdv A outer s H E G hr hgd => ⟨_, a_Theory_sources ,
    dss_one (ds_ret (de_callB (call_sortA rfl) sc_sort (by rfl) z_sorted (by decide +kernel) (da_cons (de_callTy (call_listK rfl) sc_listK (by rfl) z_list (by decide +kernel) (da_cons (de_fldK K "Theory" k_Theory a_Theory_equations (dv 0)) (da_nil))) (da_nil)))),
    fun ds W QD ED h => rd_Theory_sources h⟩
def sp_Theory_given : SpD := fun ds W Q _ => ∃ (t : Thy), ds = [.ptr t.T] ∧ ThyO W t ∧ (t.E.map (·.1)).Pairwise (· < ·) ∧ t.E.length < 60 ∧ ∀ p W', Grow W W' → W' p = some (.lst (t.E.map fun z => D.tup [z.2.1.d, z.2.2.d])) → W p = none → Q (.ptr p) W'
theorem len_Theory_given : ∀ ds W Q E, sp_Theory_given ds W Q E → ds.length = 1 := by
  rintro ds W Q E ⟨_, rfl, _⟩; rfl
theorem gc_given {t : Thy} {W : Wd} {Q : DQ} {E : DX} (h : ThyO W t) (h1 : (t.E.map (·.1)).Pairwise (· < ·)) (h2 : t.E.length < 60) (k : ∀ p W', Grow W W' → W' p = some (.lst (t.E.map fun z => D.tup [z.2.1.d, z.2.2.d])) → W p = none → Q (.ptr p) W') : sp_Theory_given [.ptr t.T] W Q E := ⟨t, rfl, h, h1, h2, k⟩
theorem eqOf_mem {E : List (Int × Trm × Trm)} (h : (E.map (·.1)).Pairwise (· < ·)) {z : Int × Trm × Trm} (hz : z ∈ E) : eqOf E z.1 = some z.2 := by
  unfold eqOf
  induction E with
  | nil => cases hz
  | cons y E ih =>
    rw [List.find?_cons]
    rw [List.map_cons, List.pairwise_cons] at h
    rcases List.mem_cons.mp hz with rfl | hz
    · rw [decide_eq_true rfl]; rfl
    · have := h.1 z.1 (List.mem_map_of_mem (f := (·.1)) hz)
      rw [decide_eq_false (by omega)]
      exact ih h.2 hz

abbrev n_Theory_given : List Str := ["self", "number"]
theorem sd_Theory_given (x0 : D) : startD n_Theory_given [x0] = [some x0, none] := rfl
def e1_Theory_given  : AE := aOp dIx (aFld "Theory" "equations" (aVar 0)) (aVar 1)
def a_Theory_given  : AS := aRet (aLc true (aiSeq (aMeth "Theory" "sources" (sp_Theory_sources) [] AW.none (aVar 0) aNil)) (agName 1) (aYes) (e1_Theory_given) [1])
theorem rd_Theory_given {ds : List D} {W : Wd} {Q : DQ} {E : DX} (h : sp_Theory_given ds W Q E) : a_Theory_given (EN Q) (startD n_Theory_given ds) W := by
  obtain ⟨t, rfl, ht, hp, hl, q⟩ := h
  unfold a_Theory_given
  walk_at "rd"
  refine ⟨⟨_, objOf_ptr ht.wT, rfl⟩, ?_⟩
  walk_at "rd"
  refine gc_sources ht hp hl fun s hs => ?_
  have g1 : Grow W (W.set s (.lst ((t.E.map (·.1)).map .int))) := (Grow.refl W).set hs
  have hs2 : (W.set s (.lst ((t.E.map (·.1)).map .int))) s = some (.lst ((t.E.map (·.1)).map .int)) := Wd.set_same ..
  have ht2 := ht.grow g1
  generalize W.set s (.lst ((t.E.map (·.1)).map .int)) = W1 at g1 hs2 ht2 ⊢
  walk_at "rd"
  rw [List.map_map]
  refine lcG_inv (fun ds acc W' => ∃ us vs : List (Int × Trm × Trm), W' = W1 ∧ ds = us.map (D.int ∘ fun z => z.1) ∧ acc = vs.map (fun z => D.tup [z.2.1.d, z.2.2.d]) ∧ vs ++ us = t.E) ⟨t.E, [], rfl, rfl, rfl, rfl⟩ (by rw [List.length_map, sizeLine_val]; omega) ?_ ?_ ?_
  · rintro ds acc W' L ⟨us, vs, rfl, _⟩ hL
    show (W'.set L _) s = _
    rw [Wd.set_ne (fun e => by rw [← e, hs2] at hL; cases hL)]
    rw [hs2, List.map_map]
  · rintro d ds acc W' L Q' P ⟨us, vs, rfl, e1, rfl, e2⟩ hL k1 k2
    cases us with
    | nil => cases e1
    | cons y us =>
      rw [List.map_cons] at e1
      cases e1
      have hy : y ∈ t.E := by rw [← e2]; simp
      have ht3 := ht2.grow ((Grow.refl W').set (o := .lst (vs.map (fun z => D.tup [z.2.1.d, z.2.2.d]))) hL)
      unfold e1_Theory_given
      show _
      rw [show (D.int ∘ fun z : Int × Trm × Trm => z.1) y = D.int y.1 from rfl]
      walk_at "rd"
      refine go_fldV (objOf_ptr ht3.wT) (f := "equations") (d := .ptr t.e) (by rfl) ?_
      walk_at "rd"
      refine go_ixO (dkOf_ptr ht3.we) (k := .inl y.1) rfl (by rw [look_eq, eqOf_mem hp hy]; rfl) ?_
      exact k1 _ _ hL ⟨us, vs ++ [y], rfl, rfl, by rw [List.map_append]; rfl, by rw [← e2]; simp⟩
  · rintro acc W' ⟨us, vs, rfl, e1, rfl, e2⟩
    cases us with
    | cons _ _ => cases e1
    | nil =>
      rw [List.append_nil] at e2
      rw [e2, if_pos rfl]
      intro p hp'
      refine q p _ (g1.trans ((Grow.refl W').set hp')) (Wd.set_same ..) ?_
      cases e : W p with
      | none => rfl
      | some m => rw [g1 _ _ e] at hp'; cases hp'

theorem sc_Theory_given : FnScope ["self", "number"] ["self"] (defScope s_Theory_given) := ⟨rfl, rfl, rfl, by decide +kernel, rfl, by decide +kernel, by decide +kernel⟩
theorem ok_Theory_given {P : Program} {w : World} {K : PySem.W.Frag} {mg : Str → Option Value} {base : Heap} {k : Nat}  (F : DfB K (He.ma K (He.ga K "Theory") "given") "given" "Theory.given" s_Theory_given [] []) (b_Theory_sources : FkM P w K mg base CX0 k (He.ma K (He.ga K "Theory") "sources") ["self"] (sp_Theory_sources)) (m_Theory_sources : Meth K (He.ga K "Theory") "sources" (He.ma K (He.ga K "Theory") "sources")) (k_Theory : Cls K (He.ga K "Theory")) (a_Theory_equations : NoAttr K (He.ga K "Theory") "equations") : FkB P w K mg base CX0 (k + 1) (He.ma K (He.ga K "Theory") "given") "given" "Theory.given" s_Theory_given [] [] ["self"] (sp_Theory_given) := by
  have sc := sc_Theory_given
  exact okB F sc len_Theory_given fun cdv A outer s H E G hr hgd => ⟨_, a_Theory_given ,
    dss_one (ds_ret (de_lc true rfl sc.nd (di_seq (de_meth0K K (E := fun _ => E0) (fun _ => passA0) liftS_none k_Theory m_Theory_sources b_Theory_sources hr hgd (dv 0))) (blkOk_by (own := [("number", 1)]) (by kernel_rfl)) (dc_of (fun _ _ _ _ _ => dg_name (i := 1) sc.nd rfl (.inl rfl)) (fun _ _ _ _ _ => dts_nil) (fun _ _ _ _ _ => de_ix (ixK K (ix_all (hu_of hr))) sr_ix (de_fldK K "Theory" k_Theory a_Theory_equations (dv 0)) (dv 1))) wipe_name)),
    fun ds W QD ED h => rd_Theory_given h⟩
def sp__law_mix : SpD := fun ds W Q _ => ∃ c, ds = [.int c] ∧ ∀ m, 0 ≤ m → m < 2147483629 → Q (.int m) W
theorem len__law_mix : ∀ ds W Q E, sp__law_mix ds W Q E → ds.length = 1 := by
  rintro ds W Q E ⟨d, rfl, _⟩; rfl

abbrev n__law_mix : List Str := ["_law_cell", "_law_number_here"]
theorem sd__law_mix (x0 : D) : startD n__law_mix [x0] = [some x0, none] := rfl
def a__law_mix  : AS := aSeq (aAsg (aOp (dIC (fun _ j => 0 < j) fun i j => .int (i % j)) (aCB (dInt) (aCons (aVar 0) (aNil))) (aC (.int 2147483647))) (agName 1)) (aSeq (aAsg (aOp (dIC (fun _ j => 0 < j) fun i j => .int (i % j)) (aCB (dInt) (aCons (aOp (dAdd false) (aOp (dIC CMul fun i j => .int (i * j)) (aVar 1) (aC (.int 48271))) (aC (.int 11))) (aNil))) (aC (.int 2147483647))) (agName 1)) (aRet (aOp (dIC (fun _ j => 0 < j) fun i j => .int (i % j)) (aCB (dInt) (aCons (aOp (dAdd false) (aOp (dIC CMul fun i j => .int (i * j)) (aVar 1) (aC (.int 69621))) (aC (.int 5))) (aNil))) (aC (.int 2147483629)))))
theorem rd__law_mix {ds : List D} {W : Wd} {Q : DQ} {E : DX} (h : sp__law_mix ds W Q E) : a__law_mix (EN Q) (startD n__law_mix ds) W := by
  obtain ⟨c, rfl, q⟩ := h
  unfold a__law_mix
  walk_at "rd"
  exact q _ (Int.emod_nonneg _ (by decide)) (Int.emod_lt_of_pos _ (by decide))

theorem sc__law_mix : FnScope ["_law_cell", "_law_number_here"] ["_law_cell"] (defScope s__law_mix) := ⟨rfl, rfl, rfl, by decide +kernel, rfl, by decide +kernel, by decide +kernel⟩
theorem ok__law_mix {P : Program} {w : World} {K : PySem.W.Frag} {mg : Str → Option Value} {base : Heap} {k : Nat}  (F : Df K mg "_law_mix" "_law_mix" s__law_mix) (z_int : mg "int" = none) : Fk P w K mg base CX0 (k + 1) "_law_mix" ["_law_cell"] (sp__law_mix) := by
  have sc := sc__law_mix
  exact okF F sc (fun _ _ _ _ _ _ us hl => match us, hl with | [_], _ => rfl) len__law_mix fun cdv A outer s H E G f hr hgd => ⟨_, a__law_mix ,
    dss_cons (ds_set (i := 1) sc.nd rfl (.inl rfl) (de_op op_mod sr_iC (de_callTy call_intA sc_int (by rfl) z_int (by decide +kernel) (da_cons (dv 0) (da_nil))) (de_int))) (dss_cons (ds_set (i := 1) sc.nd rfl (.inl rfl) (de_op op_mod sr_iC (de_callTy call_intA sc_int (by rfl) z_int (by decide +kernel) (da_cons (de_op (op_addA) sr_add (de_op op_mul sr_iC (dv 1) (de_int)) (de_int)) (da_nil))) (de_int))) (dss_one (ds_ret (de_op op_mod sr_iC (de_callTy call_intA sc_int (by rfl) z_int (by decide +kernel) (da_cons (de_op (op_addA) sr_add (de_op op_mul sr_iC (dv 1) (de_int)) (de_int)) (da_nil))) (de_int))))),
    fun ds W QD ED h => rd__law_mix h⟩
def sp__law_number : SpD := fun ds W Q _ => ∃ c, ds = [.int c] ∧ ∀ m, Q (.int m) W
theorem len__law_number : ∀ ds W Q E, sp__law_number ds W Q E → ds.length = 1 := by
  rintro ds W Q E ⟨d, rfl, _⟩; rfl

abbrev n__law_number : List Str := ["_law_cell", "_law_first"]
theorem sd__law_number (x0 : D) : startD n__law_number [x0] = [some x0, none] := rfl
def a__law_number  : AS := aSeq (aIfS (aTest (aOp (dI0 fun i j => .bl (decide (j ≤ i))) (aVar 0) (aOp (dIC CPow fun i j => .int (i ^ j.toNat)) (aC (.int 10)) (aC (.int 18))))) (aRet (aVar 0)) (aNext)) (aSeq (aAsg (aCall (sp__law_mix) [] ED0 (aCons (aVar 0) (aNil))) (agName 1)) (aRet (aOp (dAdd false) (aOp (dIC CMul fun i j => .int (i * j)) (aVar 1) (aC (.int 2147483629))) (aCall (sp__law_mix) [] ED0 (aCons (aOp (dAdd false) (aVar 1) (aVar 0)) (aNil))))))
theorem rd__law_number {ds : List D} {W : Wd} {Q : DQ} {E : DX} (h : sp__law_number ds W Q E) : a__law_number (EN Q) (startD n__law_number ds) W := by
  obtain ⟨c, rfl, q⟩ := h
  unfold a__law_number
  walk_at "rd"
  refine go_iteD (fun _ => ?_) (fun _ => ?_)
  · walk_at "rd"
    exact q _
  · walk_at "rd"
    refine ⟨_, rfl, fun m _ _ => ?_⟩
    walk_at "rd"
    refine ⟨_, rfl, fun n _ _ => ?_⟩
    walk_at "rd"
    exact q _

theorem sc__law_number : FnScope ["_law_cell", "_law_first"] ["_law_cell"] (defScope s__law_number) := ⟨rfl, rfl, rfl, by decide +kernel, rfl, by decide +kernel, by decide +kernel⟩
theorem ok__law_number {P : Program} {w : World} {K : PySem.W.Frag} {mg : Str → Option Value} {base : Heap} {k : Nat}  (F : Df K mg "_law_number" "_law_number" s__law_number) (g__law_mix : Fk P w K mg base CX0 k "_law_mix" ["_law_cell"] (sp__law_mix)) : Fk P w K mg base CX0 (k + 1) "_law_number" ["_law_cell"] (sp__law_number) := by
  have sc := sc__law_number
  exact okF F sc (fun _ _ _ _ _ _ us hl => match us, hl with | [_], _ => rfl) len__law_number fun cdv A outer s H E G f hr hgd => ⟨_, a__law_number ,
    dss_cons (ds_if (dt_cmp (op_ge) sr_b0 (dv 0) (de_op op_pow sr_iC (de_int) (de_int)) (nomark _)) (dss_one (ds_ret (dv 0))) (dss_nil)) (dss_cons (ds_set (i := 1) sc.nd rfl (.inl rfl) (de_fn g__law_mix hr hgd (da_cons (dv 0) (da_nil)))) (dss_one (ds_ret (de_op (op_addA) sr_add (de_op op_mul sr_iC (dv 1) (de_int)) (de_fn g__law_mix hr hgd (da_cons (de_op (op_addA) sr_add (dv 1) (dv 0)) (da_nil))))))),
    fun ds W QD ED h => rd__law_number h⟩
def sp__law_state : SpD := fun ds W Q _ => ∃ ns : List Int, ds = [.flst (ns.map .int)] ∧ ∀ p o, W p = none → StO o → Q (.ptr p) (W.set p o)
theorem len__law_state : ∀ ds W Q E, sp__law_state ds W Q E → ds.length = 1 := by
  rintro ds W Q E ⟨d, rfl, _⟩; rfl

abbrev n__law_state : List Str := ["_law_script"]
theorem sd__law_state (x0 : D) : startD n__law_state [x0] = [some x0] := rfl
def a__law_state  : AS := aRet (aLst true (aCons (aC (.int 0)) (aCons (aCB (dList false) (aCons (aVar 0) (aNil))) (aCons (aC (.int 0)) (aCons (aOp (dAdd false) (aC (.int 1)) (aCB (dLen) (aCons (aVar 0) (aNil)))) (aNil))))))
theorem rd__law_state {ds : List D} {W : Wd} {Q : DQ} {E : DX} (h : sp__law_state ds W Q E) : a__law_state (EN Q) (startD n__law_state ds) W := by
  obtain ⟨ns, rfl, q⟩ := h
  unfold a__law_state
  walk_at "rd"
  exact fun p hp => q p _ hp ⟨0, ns, 0, _, rfl, by decide⟩
theorem gc_state {ns : List Int} {W : Wd} {Q : DQ} {E : DX} (h : ∀ p o, W p = none → StO o → Q (.ptr p) (W.set p o)) : sp__law_state [.flst (ns.map .int)] W Q E := ⟨ns, rfl, h⟩

theorem sc__law_state : FnScope ["_law_script"] ["_law_script"] (defScope s__law_state) := ⟨rfl, rfl, rfl, by decide +kernel, rfl, by decide +kernel, by decide +kernel⟩
theorem ok__law_state {P : Program} {w : World} {K : PySem.W.Frag} {mg : Str → Option Value} {base : Heap} {k : Nat}  (F : Df K mg "_law_state" "_law_state" s__law_state) (z_len : mg "len" = none) (z_list : mg "list" = none) : Fk P w K mg base CX0 (k + 1) "_law_state" ["_law_script"] (sp__law_state) := by
  have sc := sc__law_state
  exact okF F sc (fun _ _ _ _ _ _ us hl => match us, hl with | [_], _ => rfl) len__law_state fun cdv A outer s H E G f hr hgd => ⟨_, a__law_state ,
    dss_one (ds_ret (de_lst true (da_cons (de_int) (da_cons (de_callTy call_list_of sc_list (by rfl) z_list (by decide +kernel) (da_cons (dv 0) (da_nil))) (da_cons (de_int) (da_cons (de_op (op_addA) sr_add (de_int) (de_callB call_lenA sc_len (by rfl) z_len (by decide +kernel) (da_cons (dv 0) (da_nil)))) (da_nil))))))),
    fun ds W QD ED h => rd__law_state h⟩
def sp__law_draw : SpD := fun ds W Q _ => ∃ st m o, ds = [.ptr st, .int m] ∧ W st = some o ∧ StO o ∧ 0 < m ∧ m < 1073741824 ∧ ∀ n o', 0 ≤ n → n < m → StO o' → Q (.int n) (W.set st o')
theorem len__law_draw : ∀ ds W Q E, sp__law_draw ds W Q E → ds.length = 2 := by
  rintro ds W Q E ⟨st, m, o, rfl, _⟩; rfl

abbrev n__law_draw : List Str := ["_law_state_here", "_law_many", "_law_value"]
theorem sd__law_draw (x0 x1 : D) : startD n__law_draw [x0, x1] = [some x0, some x1, none] := rfl
def a__law_draw  : AS := aSeq (aIfS (aAnd (aTest (aOp (dLt) (aOp dIx (aVar 0) (aC (.int 0))) (aVar 1))) (aTest (aOp (dLt) (aOp dIx (aVar 0) (aC (.int 2))) (aCB (dLen) (aCons (aOp dIx (aVar 0) (aC (.int 1))) (aNil)))))) (aSeq (aAsg (aCall (sp__law_number) [] ED0 (aCons (aOp dIx (aOp dIx (aVar 0) (aC (.int 1))) (aOp dIx (aVar 0) (aC (.int 2)))) (aNil))) (agSub (aVar 0) (aC (.int 0)) dSet)) (aAsg (aOp (dAdd false) (aOp dIx (aVar 0) (aC (.int 2))) (aC (.int 1))) (agSub (aVar 0) (aC (.int 2)) dSet))) (aNext)) (aSeq (aIfS (aTest (aOp (dEq) (aOp dIx (aVar 0) (aC (.int 0))) (aC (.int 0)))) (aSeq (aAsg (aOp (dIC (fun _ j => 0 < j) fun i j => .int (i % j)) (aCB (dInt) (aCons (aOp (dAdd false) (aOp (dIC CMul fun i j => .int (i * j)) (aOp dIx (aVar 0) (aC (.int 3))) (aC (.int 48271))) (aC (.int 7))) (aNil))) (aC (.int 2147483647))) (agSub (aVar 0) (aC (.int 3)) dSet)) (aRet (aOp (dIC (fun _ j => 0 < j) fun i j => .int (i % j)) (aCB (dInt) (aCons (aOp (dIC CDiv fun i j => .int (i / j)) (aOp dIx (aVar 0) (aC (.int 3))) (aC (.int 11))) (aNil))) (aVar 1)))) (aNext)) (aSeq (aAsg (aOp (dIC (fun _ j => 0 < j) fun i j => .int (i % j)) (aCB (dInt) (aCons (aOp dIx (aVar 0) (aC (.int 0))) (aNil))) (aVar 1)) (agName 2)) (aSeq (aAsg (aOp (dIC CDiv fun i j => .int (i / j)) (aOp dIx (aVar 0) (aC (.int 0))) (aVar 1)) (agSub (aVar 0) (aC (.int 0)) dSet)) (aRet (aVar 2)))))
theorem rd__law_draw {ds : List D} {W : Wd} {Q : DQ} {E : DX} (h : sp__law_draw ds W Q E) : a__law_draw (EN Q) (startD n__law_draw ds) W := by
  obtain ⟨st, m, o, rfl, hw, ⟨r, xs, i, c, rfl, hi⟩, h0, h1, q⟩ := h
  unfold a__law_draw
  have hm : ∀ k : Int, 0 ≤ k % m ∧ k % m < m := fun k => ⟨Int.emod_nonneg _ (by omega), Int.emod_lt_of_pos _ h0⟩
  walk_at "rs"
  · rename_i hl
    refine go_ixL (d := .int (xs[i.toNat]'(by simp at hl; omega))) (by rw [atI_of hi]; simp at hl; simp [hl]) ?_
    walk_at "rd"
    refine ⟨_, rfl, fun v => ?_⟩
    walk_at "rs"
    · exact q _ _ (hm _).1 (hm _).2 ⟨_, xs, _, _, rfl, by omega⟩
    · exact q _ _ (hm _).1 (hm _).2 ⟨_, xs, _, _, rfl, by omega⟩
  all_goals exact q _ _ (hm _).1 (hm _).2 ⟨_, xs, _, _, rfl, by omega⟩
theorem gc_draw {st : Addr} {m : Int} {o : MO} {W : Wd} {Q : DQ} {E : DX} (hw : W st = some o) (ho : StO o) (h0 : 0 < m) (h1 : m < 1073741824) (h : ∀ n o', 0 ≤ n → n < m → StO o' → Q (.int n) (W.set st o')) : sp__law_draw [.ptr st, .int m] W Q E := ⟨st, m, o, rfl, hw, ho, h0, h1, h⟩
theorem gc_draw2 {st : Addr} {m : Int} {o : MO} {W : Wd} {Q : DQ} {E : DX} (ho : StO o) (h0 : 0 < m) (h1 : m < 1073741824) (h : ∀ n o', 0 ≤ n → n < m → StO o' → Q (.int n) (W.set st o')) : sp__law_draw [.ptr st, .int m] (W.set st o) Q E := gc_draw (Wd.set_same ..) ho h0 h1 fun n o' a b c => by rw [Wd.set_set]; exact h n o' a b c
local macro_rules | `(tactic| walk_at "rdx") => `(tactic| first
  | ((with_reducible refine' gc_draw2 ?ho ?h0 ?h1 (fun n o' _ _ _ => ?_)); (case ho => assumption); (case h0 => first | decide | omega); (case h1 => first | decide | omega))
  | ((with_reducible refine' gc_draw ?hw ?ho ?h0 ?h1 (fun n o' _ _ _ => ?_)); (case hw => assumption); (case ho => assumption); (case h0 => first | decide | omega); (case h1 => first | decide | omega)))

theorem sc__law_draw : FnScope ["_law_state_here", "_law_many", "_law_value"] ["_law_state_here", "_law_many"] (defScope s__law_draw) := ⟨rfl, rfl, rfl, by decide +kernel, rfl, by decide +kernel, by decide +kernel⟩
theorem ok__law_draw {P : Program} {w : World} {K : PySem.W.Frag} {mg : Str → Option Value} {base : Heap} {k : Nat}  (F : Df K mg "_law_draw" "_law_draw" s__law_draw) (z_len : mg "len" = none) (g__law_number : Fk P w K mg base CX0 k "_law_number" ["_law_cell"] (sp__law_number)) (z_int : mg "int" = none) : Fk P w K mg base CX0 (k + 1) "_law_draw" ["_law_state_here", "_law_many"] (sp__law_draw) := by
  have sc := sc__law_draw
  exact okF F sc (fun _ _ _ _ _ _ us hl => match us, hl with | [_, _], _ => rfl) len__law_draw fun cdv A outer s H E G f hr hgd => ⟨_, a__law_draw ,
    dss_cons (ds_if (DW.dt (dw_and (dt_cmp (op_ltA (hu151 hr)) sr_lt (de_ix (ix_all (hu_of hr)) sr_ix (dv 0) (de_int)) (dv 1) (nomark _)) (dw_and1 (dt_cmp (op_ltA (hu151 hr)) sr_lt (de_ix (ix_all (hu_of hr)) sr_ix (dv 0) (de_int)) (de_callB call_lenA sc_len (by rfl) z_len (by decide +kernel) (da_cons (de_ix (ix_all (hu_of hr)) sr_ix (dv 0) (de_int)) (da_nil))) (nomark _))))) (dss_cons (ds_asg (de_fn g__law_number hr hgd (da_cons (de_ix (ix_all (hu_of hr)) sr_ix (de_ix (ix_all (hu_of hr)) sr_ix (dv 0) (de_int)) (de_ix (ix_all (hu_of hr)) sr_ix (dv 0) (de_int))) (da_nil))) (dg_sub (dv 0) (de_int) (set_all (hu_of hr)) set_sim)) (dss_one (ds_asg (de_op (op_addA) sr_add (de_ix (ix_all (hu_of hr)) sr_ix (dv 0) (de_int)) (de_int)) (dg_sub (dv 0) (de_int) (set_all (hu_of hr)) set_sim)))) (dss_nil)) (dss_cons (ds_if (dt_cmp (op_eqP (hu151 hr)) sr_eq (de_ix (ix_all (hu_of hr)) sr_ix (dv 0) (de_int)) (de_int) (nomark _)) (dss_cons (ds_asg (de_op op_mod sr_iC (de_callTy call_intA sc_int (by rfl) z_int (by decide +kernel) (da_cons (de_op (op_addA) sr_add (de_op op_mul sr_iC (de_ix (ix_all (hu_of hr)) sr_ix (dv 0) (de_int)) (de_int)) (de_int)) (da_nil))) (de_int)) (dg_sub (dv 0) (de_int) (set_all (hu_of hr)) set_sim)) (dss_one (ds_ret (de_op op_mod sr_iC (de_callTy call_intA sc_int (by rfl) z_int (by decide +kernel) (da_cons (de_op op_fdiv sr_iC (de_ix (ix_all (hu_of hr)) sr_ix (dv 0) (de_int)) (de_int)) (da_nil))) (dv 1))))) (dss_nil)) (dss_cons (ds_set (i := 2) sc.nd rfl (.inl rfl) (de_op op_mod sr_iC (de_callTy call_intA sc_int (by rfl) z_int (by decide +kernel) (da_cons (de_ix (ix_all (hu_of hr)) sr_ix (dv 0) (de_int)) (da_nil))) (dv 1))) (dss_cons (ds_asg (de_op op_fdiv sr_iC (de_ix (ix_all (hu_of hr)) sr_ix (dv 0) (de_int)) (dv 1)) (dg_sub (dv 0) (de_int) (set_all (hu_of hr)) set_sim)) (dss_one (ds_ret (dv 2)))))),
    fun ds W QD ED h => rd__law_draw h⟩
def sp__law_word : SpD := fun ds W Q _ => ∃ st m o, ds = [.ptr st, .int m] ∧ W st = some o ∧ StO o ∧ 0 ≤ m ∧ m ≤ 1000 ∧ ∀ x o', Low x → x.length = m.toNat → StO o' → Q (.str x) (W.set st o')
theorem len__law_word : ∀ ds W Q E, sp__law_word ds W Q E → ds.length = 2 := by
  rintro ds W Q E ⟨st, m, o, rfl, _⟩; rfl

abbrev n__law_word : List Str := ["_law_state_here", "_law_many", "_law_letters", "_law_k"]
theorem sd__law_word (x0 x1 : D) : startD n__law_word [x0, x1] = [some x0, some x1, none, none] := rfl
def e1__law_word  : AE := aOp dIx (aVar 2) (aCall (sp__law_draw) [] ED0 (aCons (aVar 0) (aCons (aC (.int 26)) (aNil))))
def a__law_word  : AS := aSeq (aAsg (aC (.str "abcdefghijklmnopqrstuvwxyz")) (agName 2)) (aRet (aM1 dJoin (aC (.str "")) (aLc false (aiRng1 (aCons (aVar 1) (aNil))) (agName 3) (aYes) (e1__law_word) [3])))
theorem rd__law_word {ds : List D} {W : Wd} {Q : DQ} {E : DX} (h : sp__law_word ds W Q E) : a__law_word (EN Q) (startD n__law_word ds) W := by
  obtain ⟨st, m, o, rfl, hw, ho, h0, h1, q⟩ := h
  unfold a__law_word
  walk_at "rd"
  refine lcE_draw (st := st) (items := rangeD 0 m.toNat) (fun ds acc => acc.length + ds.length = m.toNat ∧ ∀ d ∈ acc, ∃ c, d = .str ⟨#[c]⟩ ∧ 97 ≤ c ∧ c ≤ 122) hw ho ⟨by rw [rangeD_length]; simp, by simp⟩ (by rw [rangeD_length, sizeLine_val]; omega) ?_ ?_
  · rintro d ds acc W' o Q' ⟨h2, h3⟩ hw' ho' k
    unfold e1__law_word
    walk_at "rd"
    rename_i n o' hn0 hn1 ho2
    refine go_abc hn0 hn1 (k _ _ ho2 ⟨?_, ?_⟩)
    · simp at h2 ⊢; omega
    · intro d hd
      rcases List.mem_append.mp hd with hd | hd
      · exact h3 d hd
      · rw [List.mem_singleton] at hd
        exact ⟨_, hd, by omega, by omega⟩
  · rintro acc o' ⟨h2, h3⟩ ho2
    obtain ⟨ys, rfl, e, g⟩ := map_str_of h3
    obtain ⟨w1, w2⟩ := word_of g
    simp at h2
    walk_at "rd"
    refine go_join (by rw [ones_sum ys fun y hy => by obtain ⟨c, rfl, _⟩ := g y hy; rfl]; have : (("" : Str)).length = 0 := by decide +kernel
                       rw [this]; omega) ?_
    exact q _ _ w1 (by rw [w2]; omega) ho2
theorem gc_word {st : Addr} {m : Int} {o : MO} {W : Wd} {Q : DQ} {E : DX} (hw : W st = some o) (ho : StO o) (h0 : 0 ≤ m) (h1 : m ≤ 1000) (h : ∀ x o', Low x → x.length = m.toNat → StO o' → Q (.str x) (W.set st o')) : sp__law_word [.ptr st, .int m] W Q E := ⟨st, m, o, rfl, hw, ho, h0, h1, h⟩
theorem gc_word2 {st : Addr} {m : Int} {o : MO} {W : Wd} {Q : DQ} {E : DX} (ho : StO o) (h0 : 0 ≤ m) (h1 : m ≤ 1000) (h : ∀ x o', Low x → x.length = m.toNat → StO o' → Q (.str x) (W.set st o')) : sp__law_word [.ptr st, .int m] (W.set st o) Q E := gc_word (Wd.set_same ..) ho h0 h1 fun n o' a b c => by rw [Wd.set_set]; exact h n o' a b c
local macro_rules | `(tactic| walk_at "rdx") => `(tactic| first
  | ((with_reducible refine' gc_word2 ?ho ?h0 ?h1 (fun n o' _ _ _ => ?_)); (case ho => assumption); (case h0 => first | decide | omega); (case h1 => first | decide | omega))
  | ((with_reducible refine' gc_word ?hw ?ho ?h0 ?h1 (fun n o' _ _ _ => ?_)); (case hw => assumption); (case ho => assumption); (case h0 => first | decide | omega); (case h1 => first | decide | omega)))

theorem sc__law_word : FnScope ["_law_state_here", "_law_many", "_law_letters", "_law_k"] ["_law_state_here", "_law_many"] (defScope s__law_word) := ⟨rfl, rfl, rfl, by decide +kernel, rfl, by decide +kernel, by decide +kernel⟩
theorem ok__law_word {P : Program} {w : World} {K : PySem.W.Frag} {mg : Str → Option Value} {base : Heap} {k : Nat}  (F : Df K mg "_law_word" "_law_word" s__law_word) (z_range : mg "range" = none) (g__law_draw : Fk P w K mg base CX0 k "_law_draw" ["_law_state_here", "_law_many"] (sp__law_draw)) : Fk P w K mg base CX0 (k + 1) "_law_word" ["_law_state_here", "_law_many"] (sp__law_word) := by
  have sc := sc__law_word
  exact okF F sc (fun _ _ _ _ _ _ us hl => match us, hl with | [_, _], _ => rfl) len__law_word fun cdv A outer s H E G f hr hgd => ⟨_, a__law_word ,
    dss_cons (ds_set (i := 2) sc.nd rfl (.inr rfl) (de_str)) (dss_one (ds_ret (de_join (de_str) (de_lc false rfl sc.nd (di_range1 (by rfl) z_range (da_cons (dv 1) (da_nil))) (blkOk_by (own := [("_law_k", 3)]) (by kernel_rfl)) (dc_of (fun _ _ _ _ _ => dg_name (i := 3) sc.nd rfl (.inl rfl)) (fun _ _ _ _ _ => dts_nil) (fun _ _ _ _ _ => de_ix (ixK K (ix_all (hu_of hr))) sr_ix (dv 2) (de_fnK g__law_draw hr hgd (da_cons (dv 0) (da_cons (de_int) (da_nil)))))) wipe_name)))),
    fun ds W QD ED h => rd__law_word h⟩
def nmAt (a b : Str) (f : Int) (k : Nat) : Str := a ++ ⟨#[97 + ((f + 3 * k) % 26).toNat]⟩ ++ b
def sp__law_names : SpD := fun ds W Q _ => ∃ st m o, ds = [.ptr st, .int m] ∧ W st = some o ∧ StO o ∧ 0 ≤ m ∧ m ≤ 26 ∧ ∀ (ns : List Str) o', ns.length = m.toNat → ns.Nodup → (∀ x ∈ ns, Nm x) → (∃ n : Nat, ∀ x ∈ ns, x.length = n) → StO o' → Q (.lst (ns.map .str)) (W.set st o')
theorem len__law_names : ∀ ds W Q E, sp__law_names ds W Q E → ds.length = 2 := by
  rintro ds W Q E ⟨st, m, o, rfl, _⟩; rfl
theorem nmAt_ne {a b : Str} {f : Int} {i j : Nat} (hi : i < 26) (hj : j < 26) (h : nmAt a b f i = nmAt a b f j) : i = j := by
  have e := congrArg (fun x => x.cps.toList) h
  simp only [nmAt, app_list] at e
  have e := List.append_cancel_right e
  have e := List.append_cancel_left e
  simp at e
  omega

abbrev n__law_names : List Str := ["_law_state_here", "_law_count", "_law_letters", "_law_before", "_law_behind", "_law_first", "_law_k"]
theorem sd__law_names (x0 x1 : D) : startD n__law_names [x0, x1] = [some x0, some x1, none, none, none, none, none] := rfl
def e1__law_names  : AE := aOp (dAdd false) (aOp (dAdd false) (aVar 3) (aOp dIx (aVar 2) (aOp (dIC (fun _ j => 0 < j) fun i j => .int (i % j)) (aCB (dInt) (aCons (aOp (dAdd false) (aVar 5) (aOp (dIC CMul fun i j => .int (i * j)) (aC (.int 3)) (aVar 6))) (aNil))) (aC (.int 26))))) (aVar 4)
def a__law_names  : AS := aSeq (aAsg (aC (.str "abcdefghijklmnopqrstuvwxyz")) (agName 2)) (aSeq (aAsg (aCall (sp__law_word) [] ED0 (aCons (aVar 0) (aCons (aCall (sp__law_draw) [] ED0 (aCons (aVar 0) (aCons (aC (.int 4)) (aNil)))) (aNil)))) (agName 3)) (aSeq (aAsg (aCall (sp__law_word) [] ED0 (aCons (aVar 0) (aCons (aCall (sp__law_draw) [] ED0 (aCons (aVar 0) (aCons (aC (.int 4)) (aNil)))) (aNil)))) (agName 4)) (aSeq (aAsg (aCall (sp__law_draw) [] ED0 (aCons (aVar 0) (aCons (aC (.int 26)) (aNil)))) (agName 5)) (aRet (aLc false (aiRng1 (aCons (aVar 1) (aNil))) (agName 6) (aYes) (e1__law_names) [6])))))
theorem rd__law_names {ds : List D} {W : Wd} {Q : DQ} {E : DX} (h : sp__law_names ds W Q E) : a__law_names (EN Q) (startD n__law_names ds) W := by
  obtain ⟨st, m, o, rfl, hw, ho, h0, h1, q⟩ := h
  unfold a__law_names
  walk_at "rd"
  rename_i n1 o1 _ _ _ a oa la na _ n2 o2 _ _ _ b ob lb nb _ f o3 hf0 hf1 ho3
  refine lcE_map (items := rangeD 0 m.toNat) (fun d => match d with | .int k => .str (nmAt a b f k.toNat) | _ => .non) (by rw [rangeD_length, sizeLine_val]; omega) ?_ ?_
  · intro d hd L acc Q' hL k
    unfold rangeD at hd
    obtain ⟨i, hi, rfl⟩ := List.mem_map.mp hd
    unfold e1__law_names
    walk_at "rd"
    refine go_abc (Int.emod_nonneg _ (by decide)) (Int.emod_lt_of_pos _ (by decide)) ?_
    have l1 : ∀ c, (Str.mk #[c]).length = 1 := fun c => rfl
    refine go_addS (by rw [l1, na, sizeLine_val]; omega) ?_
    walk_at "rd"
    refine go_addS (by rw [app_len, l1, na, nb, sizeLine_val]; omega) ?_
    have e : ((0 + (i : Nat) : Int)).toNat = i := by omega
    simp only [e] at k
    simp only [nmAt] at k
    have e2 : (0 + (i : Nat) : Int) = i := by omega
    rw [e2]
    exact k
  · have e : (rangeD 0 m.toNat).map (fun d => match d with | .int k => D.str (nmAt a b f k.toNat) | _ => .non) = ((List.range m.toNat).map (nmAt a b f)).map .str := by
      unfold rangeD
      rw [List.map_map, List.map_map]
      exact List.map_congr_left fun i _ => by simp
    rw [e]
    refine q _ _ (by simp) ?_ ?_ ⟨n1.toNat + 1 + n2.toNat, ?_⟩ ho3
    · rw [List.Nodup, List.pairwise_map]
      refine List.nodup_range.imp_of_mem fun {i j} hi hj h e => h (nmAt_ne ?_ ?_ e)
      · have := List.mem_range.mp hi; omega
      · have := List.mem_range.mp hj; omega
    · intro x hx
      obtain ⟨i, hi, rfl⟩ := List.mem_map.mp hx
      have l1 : ∀ c, (Str.mk #[c]).length = 1 := fun c => rfl
      refine ⟨(la.app fun c hc => ?_).app lb, ?_, ?_⟩
      · simp at hc
        omega
      · rw [nmAt, app_len, app_len, l1]; omega
      · rw [nmAt, app_len, app_len, l1, na, nb]; omega
    · intro x hx
      obtain ⟨i, hi, rfl⟩ := List.mem_map.mp hx
      have l1 : ∀ c, (Str.mk #[c]).length = 1 := fun c => rfl
      rw [nmAt, app_len, app_len, l1, na, nb]
theorem gc_names {st : Addr} {m : Int} {o : MO} {W : Wd} {Q : DQ} {E : DX} (hw : W st = some o) (ho : StO o) (h0 : 0 ≤ m) (h1 : m ≤ 26) (h : ∀ (ns : List Str) o', ns.length = m.toNat → ns.Nodup → (∀ x ∈ ns, Nm x) → (∃ n : Nat, ∀ x ∈ ns, x.length = n) → StO o' → Q (.lst (ns.map .str)) (W.set st o')) : sp__law_names [.ptr st, .int m] W Q E := ⟨st, m, o, rfl, hw, ho, h0, h1, h⟩

theorem sc__law_names : FnScope ["_law_state_here", "_law_count", "_law_letters", "_law_before", "_law_behind", "_law_first", "_law_k"] ["_law_state_here", "_law_count"] (defScope s__law_names) := ⟨rfl, rfl, rfl, by decide +kernel, rfl, by decide +kernel, by decide +kernel⟩
theorem ok__law_names {P : Program} {w : World} {K : PySem.W.Frag} {mg : Str → Option Value} {base : Heap} {k : Nat}  (F : Df K mg "_law_names" "_law_names" s__law_names) (g__law_word : Fk P w K mg base CX0 k "_law_word" ["_law_state_here", "_law_many"] (sp__law_word)) (g__law_draw : Fk P w K mg base CX0 k "_law_draw" ["_law_state_here", "_law_many"] (sp__law_draw)) (z_range : mg "range" = none) (z_int : mg "int" = none) : Fk P w K mg base CX0 (k + 1) "_law_names" ["_law_state_here", "_law_count"] (sp__law_names) := by
  have sc := sc__law_names
  exact okF F sc (fun _ _ _ _ _ _ us hl => match us, hl with | [_, _], _ => rfl) len__law_names fun cdv A outer s H E G f hr hgd => ⟨_, a__law_names ,
    dss_cons (ds_set (i := 2) sc.nd rfl (.inr rfl) (de_str)) (dss_cons (ds_set (i := 3) sc.nd rfl (.inr rfl) (de_fn g__law_word hr hgd (da_cons (dv 0) (da_cons (de_fn g__law_draw hr hgd (da_cons (dv 0) (da_cons (de_int) (da_nil)))) (da_nil))))) (dss_cons (ds_set (i := 4) sc.nd rfl (.inr rfl) (de_fn g__law_word hr hgd (da_cons (dv 0) (da_cons (de_fn g__law_draw hr hgd (da_cons (dv 0) (da_cons (de_int) (da_nil)))) (da_nil))))) (dss_cons (ds_set (i := 5) sc.nd rfl (.inr rfl) (de_fn g__law_draw hr hgd (da_cons (dv 0) (da_cons (de_int) (da_nil))))) (dss_one (ds_ret (de_lc false rfl sc.nd (di_range1 (by rfl) z_range (da_cons (dv 1) (da_nil))) (blkOk_by (own := [("_law_k", 6)]) (by kernel_rfl)) (dc_of (fun _ _ _ _ _ => dg_name (i := 6) sc.nd rfl (.inl rfl)) (fun _ _ _ _ _ => dts_nil) (fun _ _ _ _ _ => de_op (opK rAddA K op_addA) sr_add (de_op (opK rAddA K op_addA) sr_add (dv 3) (de_ix (ixK K (ix_all (hu_of hr))) sr_ix (dv 2) (de_op op_mod sr_iC (de_callTy call_intA sc_int (by rfl) z_int (by decide +kernel) (da_cons (de_op (opK rAddA K op_addA) sr_add (dv 5) (de_op op_mul sr_iC (de_int) (dv 6))) (da_nil))) (de_int)))) (dv 4))) wipe_name)))))),
    fun ds W QD ED h => rd__law_names h⟩
def sp__law_operations : SpD := fun ds W Q _ => ∃ st o, ds = [.ptr st] ∧ W st = some o ∧ StO o ∧ ∀ ops o', Ops ops → (∃ n : Nat, ∀ x ∈ ops, x.1.length = n) → StO o' → Q (.lst (ops.map opD)) (W.set st o')
theorem len__law_operations : ∀ ds W Q E, sp__law_operations ds W Q E → ds.length = 1 := by
  rintro ds W Q E ⟨st, o, rfl, _⟩; rfl

abbrev n__law_operations : List Str := ["_law_state_here", "_law_names_here", "_law_arities", "_law_k"]
theorem sd__law_operations (x0 : D) : startD n__law_operations [x0] = [some x0, none, none, none] := rfl
def e1__law_operations  : AE := aTup (aCons (aOp dIx (aVar 1) (aVar 3)) (aCons (aOp dIx (aVar 2) (aVar 3)) (aNil)))
def a__law_operations  : AS := aSeq (aAsg (aCall (sp__law_names) [] ED0 (aCons (aVar 0) (aCons (aC (.int 5)) (aNil)))) (agName 1)) (aSeq (aAsg (aLst false (aCons (aC (.int 0)) (aCons (aC (.int 0)) (aCons (aC (.int 1)) (aCons (aC (.int 2)) (aCons (aC (.int 3)) (aNil))))))) (agName 2)) (aRet (aLc false (aiRng1 (aCons (aOp (dAdd false) (aC (.int 4)) (aCall (sp__law_draw) [] ED0 (aCons (aVar 0) (aCons (aC (.int 2)) (aNil))))) (aNil))) (agName 3) (aYes) (e1__law_operations) [3])))
theorem rd__law_operations {ds : List D} {W : Wd} {Q : DQ} {E : DX} (h : sp__law_operations ds W Q E) : a__law_operations (EN Q) (startD n__law_operations ds) W := by
  obtain ⟨st, o, rfl, hw, ho, q⟩ := h
  unfold a__law_operations
  walk_at "rd"
  refine gc_names hw ho (by decide) (by decide) fun ns o1 hn hd hN hL ho1 => ?_
  walk_at "rd"
  rename_i r o2 hr0 hr1 ho2
  have hn : ns.length = 5 := hn
  refine lcE_map (items := rangeD 0 (4 + r).toNat) (fun d => match d with | .int k => opD (ns.getD k.toNat "", ([0, 0, 1, 2, 3] : List Nat).getD k.toNat 0) | _ => .non) (by rw [rangeD_length, sizeLine_val]; omega) ?_ ?_
  · intro d hd' L acc Q' hL k
    unfold rangeD at hd'
    obtain ⟨i, hi, rfl⟩ := List.mem_map.mp hd'
    have hi := List.mem_range.mp hi
    have e2 : (0 + (i : Nat) : Int) = i := by omega
    rw [e2] at k ⊢
    have h5 : i < ns.length := by omega
    have h6 : i < ([0, 0, 1, 2, 3] : List Nat).length := by simp; omega
    have e7 : ns.getD i "" = ns[i] := by simp [List.getD, h5]
    have e8 : ([0, 0, 1, 2, 3] : List Nat).getD i 0 = ([0, 0, 1, 2, 3] : List Nat)[i] := by simp only [List.getD, List.getElem?_eq_getElem h6, Option.getD_some]
    unfold e1__law_operations
    walk_at "rd"
    refine go_ixL (d := .str ns[i]) (by rw [atI_of (by omega)]; simp [h5]) ?_
    walk_at "rd"
    refine go_ixL (d := .int ([0, 0, 1, 2, 3] : List Nat)[i]) (by
      show atI (([0, 0, 1, 2, 3] : List Nat).map fun n : Nat => D.int n) _ = _
      rw [atI_of (by omega), Int.toNat_natCast, List.getElem?_map, List.getElem?_eq_getElem h6]; rfl) ?_
    walk_at "rd"
    simp only [Int.toNat_natCast, opD, e7, e8] at k
    exact k
  · obtain ⟨c, hc, hc'⟩ : ∃ c : Nat, (4 + r).toNat = c ∧ (c = 4 ∨ c = 5) := ⟨_, rfl, by omega⟩
    rw [hc]
    have e : (rangeD 0 c).map (fun d => match d with | .int k => opD (ns.getD k.toNat "", ([0, 0, 1, 2, 3] : List Nat).getD k.toNat 0) | _ => .non) = ((ns.take c).zip [0, 0, 1, 2, 3]).map opD := by
      match ns, hn with
      | [a, b, x, y, z], _ => rcases hc' with rfl | rfl <;> rfl
    rw [e]
    match ns, hn, hd, hN, hL with
    | [a, b, x, y, z], _, hd, hN, ⟨ln, hL⟩ =>
      rcases hc' with rfl | rfl
      · refine q _ _ ⟨.inl rfl, rfl, ?_, ?_⟩ ⟨ln, ?_⟩ ho2
        · simp at hd ⊢; simp [hd]
        · intro x hx
          simp at hx
          rcases hx with rfl | rfl | rfl | rfl <;> exact hN _ (by simp)
        · intro x hx
          simp at hx
          rcases hx with rfl | rfl | rfl | rfl <;> exact hL _ (by simp)
      · refine q _ _ ⟨.inr (.inl rfl), rfl, ?_, ?_⟩ ⟨ln, ?_⟩ ho2
        · simp at hd ⊢; simp [hd]
        · intro x hx
          simp at hx
          rcases hx with rfl | rfl | rfl | rfl | rfl <;> exact hN _ (by simp)
        · intro x hx
          simp at hx
          rcases hx with rfl | rfl | rfl | rfl | rfl <;> exact hL _ (by simp)
theorem gc_operations {st : Addr} {o : MO} {W : Wd} {Q : DQ} {E : DX} (hw : W st = some o) (ho : StO o) (h : ∀ ops o', Ops ops → (∃ n : Nat, ∀ x ∈ ops, x.1.length = n) → StO o' → Q (.lst (ops.map opD)) (W.set st o')) : sp__law_operations [.ptr st] W Q E := ⟨st, o, rfl, hw, ho, h⟩

theorem sc__law_operations : FnScope ["_law_state_here", "_law_names_here", "_law_arities", "_law_k"] ["_law_state_here"] (defScope s__law_operations) := ⟨rfl, rfl, rfl, by decide +kernel, rfl, by decide +kernel, by decide +kernel⟩
theorem ok__law_operations {P : Program} {w : World} {K : PySem.W.Frag} {mg : Str → Option Value} {base : Heap} {k : Nat}  (F : Df K mg "_law_operations" "_law_operations" s__law_operations) (g__law_names : Fk P w K mg base CX0 k "_law_names" ["_law_state_here", "_law_count"] (sp__law_names)) (g__law_draw : Fk P w K mg base CX0 k "_law_draw" ["_law_state_here", "_law_many"] (sp__law_draw)) (z_range : mg "range" = none) : Fk P w K mg base CX0 (k + 1) "_law_operations" ["_law_state_here"] (sp__law_operations) := by
  have sc := sc__law_operations
  exact okF F sc (fun _ _ _ _ _ _ us hl => match us, hl with | [_], _ => rfl) len__law_operations fun cdv A outer s H E G f hr hgd => ⟨_, a__law_operations ,
    dss_cons (ds_set (i := 1) sc.nd rfl (.inr rfl) (de_fn g__law_names hr hgd (da_cons (dv 0) (da_cons (de_int) (da_nil))))) (dss_cons (ds_set (i := 2) sc.nd rfl (.inr rfl) (de_lst false (da_cons (de_int) (da_cons (de_int) (da_cons (de_int) (da_cons (de_int) (da_cons (de_int) (da_nil)))))))) (dss_one (ds_ret (de_lc false rfl sc.nd (di_range1 (by rfl) z_range (da_cons (de_op (op_addA) sr_add (de_int) (de_fn g__law_draw hr hgd (da_cons (dv 0) (da_cons (de_int) (da_nil))))) (da_nil))) (blkOk_by (own := [("_law_k", 3)]) (by kernel_rfl)) (dc_of (fun _ _ _ _ _ => dg_name (i := 3) sc.nd rfl (.inl rfl)) (fun _ _ _ _ _ => dts_nil) (fun _ _ _ _ _ => de_tup (da_cons (de_ix (ixK K (ix_all (hu_of hr))) sr_ix (dv 1) (dv 3)) (da_cons (de_ix (ixK K (ix_all (hu_of hr))) sr_ix (dv 2) (dv 3)) (da_nil))))) wipe_name)))),
    fun ds W QD ED h => rd__law_operations h⟩
def sp__law_leaf : SpD := fun ds W Q _ => ∃ st ops n o, ds = [.ptr st, .lst (ops.map opD), .int n] ∧ W st = some o ∧ StO o ∧ Ops ops ∧ n ≤ 1000000 ∧ ∀ t o', Wf ops n t → t.depth = 1 → t.size = 1 → StO o' → Q t.d (W.set st o')
theorem len__law_leaf : ∀ ds W Q E, sp__law_leaf ds W Q E → ds.length = 3 := by
  rintro ds W Q E ⟨st, ops, n, o, rfl, _⟩; rfl
theorem ops_at {ops : Sig} {i : Int} (h0 : 0 ≤ i) (h1 : i < ops.length) : atI (ops.map opD) i = some (opD (ops[i.toNat]'(by omega))) := by
  rw [atI_of h0, List.getElem?_map, List.getElem?_eq_getElem (by omega)]; rfl
theorem leaf_in {ops : Sig} (ho : Ops ops) {i : Nat} (h : i < 2) : ∃ f, ∃ hi : i < ops.length, ops[i] = (f, 0) := by
  have hi : i < ops.length := by have := ho.len; omega
  refine ⟨ops[i].1, hi, ?_⟩
  obtain ⟨_, h2⟩ := ho.low i (by omega)
  have h2 : ops[i].2 = 0 := by
    rw [h2]
    match i, h with
    | 0, _ => rfl
    | 1, _ => rfl
  rw [← h2]
theorem term0_d (f : Str) : D.tup [.str f] = (Trm.app f []).d := by simp

abbrev n__law_leaf : List Str := ["_law_state_here", "_law_operations_here", "_law_count"]
theorem sd__law_leaf (x0 x1 x2 : D) : startD n__law_leaf [x0, x1, x2] = [some x0, some x1, some x2] := rfl
def a__law_leaf  : AS := aSeq (aIfS (aAnd (aTest (aOp (dI0 fun i j => .bl (decide (j < i))) (aVar 2) (aC (.int 0)))) (aTest (aOp (dEq) (aCall (sp__law_draw) [] ED0 (aCons (aVar 0) (aCons (aC (.int 2)) (aNil)))) (aC (.int 0))))) (aRet (aCall (sp__law_draw) [] ED0 (aCons (aVar 0) (aCons (aVar 2) (aNil))))) (aNext)) (aRet (aTup (aCons (aOp dIx (aOp dIx (aVar 1) (aCall (sp__law_draw) [] ED0 (aCons (aVar 0) (aCons (aC (.int 2)) (aNil))))) (aC (.int 0))) (aNil))))
theorem rd__law_leaf {ds : List D} {W : Wd} {Q : DQ} {E : DX} (h : sp__law_leaf ds W Q E) : a__law_leaf (EN Q) (startD n__law_leaf ds) W := by
  obtain ⟨st, ops, n, o, rfl, hw, ho, hO, hn, q⟩ := h
  have fin : ∀ (W' : Wd) (i : Int) (o' : MO), 0 ≤ i → i < 2 → StO o' → W' = W.set st o' → (dIx (.lst (ops.map opD)) (.int i) W' fun x W1 => aC (.int 0) (startD n__law_leaf [.ptr st, .lst (ops.map opD), .int n]) W1 fun y W2 => dIx x y W2 fun x W1 => aNil (startD n__law_leaf [.ptr st, .lst (ops.map opD), .int n]) W1 fun xs W2 => (x :: xs).length ≤ sizeLine ∧ Q (.tup (x :: xs)) W2) := by
    intro W' i o' hi0 hi1 ho' e
    obtain ⟨f, hl, e2⟩ := leaf_in hO (i := i.toNat) (by omega)
    have hm : (f, 0) ∈ ops := by have := List.getElem_mem hl; rw [e2] at this; exact this
    refine go_ixL (d := opD (f, 0)) (by rw [ops_at hi0 (by omega), e2]) ?_
    unfold opD
    walk_at "rd"
    rw [term0_d, e]
    exact q _ _ (.app hm (by simp)) (by simp [Trm.depth, Trm.depths]) (by simp [Trm.size, Trm.sizes]) ho'
  unfold a__law_leaf
  walk_at "rs"
  · rename_i v o' hv0 hv1 ho'
    rw [← Trm.d_var]
    exact q _ _ (.var hv0 hv1) rfl rfl ho'
  all_goals
    rename_i i o' hi0 hi1 ho'
    exact fin _ i o' hi0 hi1 ho' rfl
theorem gc_leaf {st : Addr} {ops : Sig} {n : Int} {o : MO} {W : Wd} {Q : DQ} {E : DX} (hw : W st = some o) (ho : StO o) (hO : Ops ops) (hn : n ≤ 1000000) (h : ∀ t o', Wf ops n t → t.depth = 1 → t.size = 1 → StO o' → Q t.d (W.set st o')) : sp__law_leaf [.ptr st, .lst (ops.map opD), .int n] W Q E := ⟨st, ops, n, o, rfl, hw, ho, hO, hn, h⟩

theorem sc__law_leaf : FnScope ["_law_state_here", "_law_operations_here", "_law_count"] ["_law_state_here", "_law_operations_here", "_law_count"] (defScope s__law_leaf) := ⟨rfl, rfl, rfl, by decide +kernel, rfl, by decide +kernel, by decide +kernel⟩
theorem ok__law_leaf {P : Program} {w : World} {K : PySem.W.Frag} {mg : Str → Option Value} {base : Heap} {k : Nat}  (F : Df K mg "_law_leaf" "_law_leaf" s__law_leaf) (g__law_draw : Fk P w K mg base CX0 k "_law_draw" ["_law_state_here", "_law_many"] (sp__law_draw)) : Fk P w K mg base CX0 (k + 1) "_law_leaf" ["_law_state_here", "_law_operations_here", "_law_count"] (sp__law_leaf) := by
  have sc := sc__law_leaf
  exact okF F sc (fun _ _ _ _ _ _ us hl => match us, hl with | [_, _, _], _ => rfl) len__law_leaf fun cdv A outer s H E G f hr hgd => ⟨_, a__law_leaf ,
    dss_cons (ds_if (DW.dt (dw_and (dt_cmp (op_gt) sr_b0 (dv 2) (de_int) (nomark _)) (dw_and1 (dt_cmp (op_eqP (hu151 hr)) sr_eq (de_fn g__law_draw hr hgd (da_cons (dv 0) (da_cons (de_int) (da_nil)))) (de_int) (nomark _))))) (dss_one (ds_ret (de_fn g__law_draw hr hgd (da_cons (dv 0) (da_cons (dv 2) (da_nil)))))) (dss_nil)) (dss_one (ds_ret (de_tup (da_cons (de_ix (ix_all (hu_of hr)) sr_ix (de_ix (ix_all (hu_of hr)) sr_ix (dv 1) (de_fn g__law_draw hr hgd (da_cons (dv 0) (da_cons (de_int) (da_nil))))) (de_int)) (da_nil))))),
    fun ds W QD ED h => rd__law_leaf h⟩
def sp__law_term (k : Nat) : SpD := fun ds W Q _ => ∃ st ops n h o, ds = [.ptr st, .lst (ops.map opD), .int n, .int h] ∧ W st = some o ∧ StO o ∧ Ops ops ∧ n ≤ 1000000 ∧ 0 ≤ h ∧ h < k ∧ ∀ t o', Wf ops n t → t.depth ≤ h.toNat + 1 → t.size ≤ szB h.toNat → StO o' → Q t.d (W.set st o')
theorem len__law_term {n : Nat} : ∀ ds W Q E, sp__law_term n ds W Q E → ds.length = 4 := by
  rintro ds W Q E ⟨st, ops, n, h, o, rfl, _⟩; rfl
theorem app_snoc (f : Str) (ts : List Trm) (t : Trm) : D.tup ((.str f :: ts.map Trm.d) ++ [t.d]) = .tup (.str f :: (ts ++ [t]).map Trm.d) := by simp
theorem none__law_term : ∀ ds W Q E, ¬ sp__law_term 0 ds W Q E := fun ds W Q E ⟨_, _, _, h, _, _, _, _, _, _, h0, h1, _⟩ => by omega

abbrev n__law_term : List Str := ["_law_state_here", "_law_operations_here", "_law_count", "_law_height", "_law_name", "_law_arity", "_law_term_here", "_law_k"]
theorem sd__law_term (x0 x1 x2 x3 : D) : startD n__law_term [x0, x1, x2, x3] = [some x0, some x1, some x2, some x3, none, none, none, none] := rfl
def b1__law_term (n : Nat) : AS := aAsg (aOp (dAdd false) (aVar 6) (aTup (aCons (aCall (sp__law_term n) [] ED0 (aCons (aVar 0) (aCons (aVar 1) (aCons (aVar 2) (aCons (aOp (dI0 fun i j => .int (i - j)) (aVar 3) (aC (.int 1))) (aNil)))))) (aNil)))) (agName 6)
def a__law_term (n : Nat) : AS := aSeq (aIfS (aOr (aTest (aOp (dEq) (aVar 3) (aC (.int 0)))) (aTest (aOp (dEq) (aCall (sp__law_draw) [] ED0 (aCons (aVar 0) (aCons (aC (.int 4)) (aNil)))) (aC (.int 0))))) (aRet (aCall (sp__law_leaf) [] ED0 (aCons (aVar 0) (aCons (aVar 1) (aCons (aVar 2) (aNil)))))) (aNext)) (aSeq (aAsg (aOp dIx (aVar 1) (aOp (dAdd false) (aC (.int 2)) (aCall (sp__law_draw) [] ED0 (aCons (aVar 0) (aCons (aOp (dI0 fun i j => .int (i - j)) (aCB (dLen) (aCons (aVar 1) (aNil))) (aC (.int 2))) (aNil)))))) (agTup 2 (agCons (agName 4) (agCons (agName 5) (agNil))))) (aSeq (aAsg (aTup (aCons (aVar 4) (aNil))) (agName 6)) (aSeq (aFor (aiRng1 (aCons (aVar 5) (aNil))) (agName 7) (b1__law_term n)) (aRet (aVar 6)))))
theorem rd__law_term {n : Nat} {ds : List D} {W : Wd} {Q : DQ} {E : DX} (h : sp__law_term (n + 1) ds W Q E) : a__law_term n (EN Q) (startD n__law_term ds) W := by
  obtain ⟨st, ops, c, h, o, rfl, hw, ho, hO, hc, h0, h1, q⟩ := h
  have h5 : 4 ≤ (ops.map opD).length ∧ (ops.map opD).length ≤ 6 := by rw [List.length_map]; exact hO.len
  have h6 : (ops.map opD).length = ops.length := List.length_map ..
  unfold a__law_term
  walk_at "rs"
  · exact gc_leaf hw ho hO hc fun t o' a b c d => q t o' a (by omega) (by have := szB_pos h.toNat; omega) d
  · rename_i o1 _ _ ho1 _
    exact gc_leaf (Wd.set_same ..) ho1 hO hc fun t o' a b c d => by rw [Wd.set_set]; exact q t o' a (by omega) (by have := szB_pos h.toNat; omega) d
  · rename_i hh i o1 _ _ ho1 hi j o2 hj0 hj1 ho2
    obtain ⟨⟨f, m⟩, e2⟩ : ∃ x, ops[(2 + j).toNat]'(by omega) = x := ⟨_, rfl⟩
    have hm : (f, m) ∈ ops := by rw [← e2]; exact List.getElem_mem _
    have hm3 := hO.le3 hm
    simp only at hm3
    refine go_ixL (d := opD (f, m)) (by rw [ops_at (by omega) (by omega), e2]) ?_
    unfold opD
    walk_at "rd"
    refine forL_inv (items := rangeD 0 (m : Int).toNat) (fun ds δ W' => ∃ (o : MO) (ts : List Trm) (x : Option D), StO o ∧ W' = W.set st o ∧ δ = [some (.ptr st), some (.lst (ops.map opD)), some (.int c), some (.int h), some (.str f), some (.int m), some (.tup (.str f :: ts.map Trm.d)), x] ∧ ts.length + ds.length = m ∧ (∀ t ∈ ts, Wf ops c t) ∧ (∀ t ∈ ts, t.depth ≤ h.toNat) ∧ ∀ t ∈ ts, t.size ≤ szB (h - 1).toNat) ?_ ?_ ?_ ?_
    · exact ⟨o2, [], none, ho2, rfl, rfl, by rw [rangeD_length]; simp, by simp, by simp, by simp⟩
    · exact fun _ _ _ _ => trivial
    · rintro d ds δ W' N ⟨o3, ts, x, ho3, rfl, rfl, hl, hw3, hd3, hz3⟩ k
      unfold b1__law_term
      walk_at "rd"
      refine ⟨st, ops, c, h - 1, o3, rfl, Wd.set_same .., ho3, hO, hc, by omega, by omega, fun t o4 ht hdt hzt ho4 => ?_⟩
      rw [Wd.set_set]
      walk_at "rd"
      rw [app_snoc]
      refine k _ _ ⟨o4, ts ++ [t], _, ho4, rfl, rfl, by simp at hl ⊢; omega, ?_, ?_, ?_⟩
      · intro u hu
        rcases List.mem_append.mp hu with hu | hu
        · exact hw3 u hu
        · rw [List.mem_singleton] at hu; rw [hu]; exact ht
      · intro u hu
        rcases List.mem_append.mp hu with hu | hu
        · exact hd3 u hu
        · rw [List.mem_singleton] at hu; rw [hu]; omega
      · intro u hu
        rcases List.mem_append.mp hu with hu | hu
        · exact hz3 u hu
        · rw [List.mem_singleton] at hu; rw [hu]; exact hzt
    · rintro δ W' ⟨o3, ts, x, ho3, rfl, rfl, hl, hw3, hd3, hz3⟩
      walk_at "rd"
      rw [← Trm.d_app]
      refine q _ _ (.app (by simp at hl; rw [hl]; exact hm) hw3) (depth_app_le.mpr hd3) ?_ ho3
      have e1 := sizes_le hz3
      have e2 : szB h.toNat = 1 + 3 * szB (h - 1).toNat := by rw [show h.toNat = (h - 1).toNat + 1 by omega]; rfl
      have e3 : ts.length * szB (h - 1).toNat ≤ 3 * szB (h - 1).toNat := Nat.mul_le_mul_right _ (by simp at hl; omega)
      rw [show (Trm.app f ts).size = 1 + Trm.sizes ts from rfl]
      omega
theorem gc_term {k : Nat} {st : Addr} {ops : Sig} {n h : Int} {o : MO} {W : Wd} {Q : DQ} {E : DX} (hw : W st = some o) (ho : StO o) (hO : Ops ops) (hn : n ≤ 1000000) (h0 : 0 ≤ h) (h1 : h < k) (q : ∀ t o', Wf ops n t → t.depth ≤ h.toNat + 1 → t.size ≤ szB h.toNat → StO o' → Q t.d (W.set st o')) : sp__law_term k [.ptr st, .lst (ops.map opD), .int n, .int h] W Q E := ⟨st, ops, n, h, o, rfl, hw, ho, hO, hn, h0, h1, q⟩

theorem sc__law_term : FnScope ["_law_state_here", "_law_operations_here", "_law_count", "_law_height", "_law_name", "_law_arity", "_law_term_here", "_law_k"] ["_law_state_here", "_law_operations_here", "_law_count", "_law_height"] (defScope s__law_term) := ⟨rfl, rfl, rfl, by decide +kernel, rfl, by decide +kernel, by decide +kernel⟩
theorem ok__law_term {P : Program} {w : World} {K : PySem.W.Frag} {mg : Str → Option Value} {base : Heap} {k : Nat} (n : Nat) (F : Df K mg "_law_term" "_law_term" s__law_term) (g__law_draw : Fk P w K mg base CX0 k "_law_draw" ["_law_state_here", "_law_many"] (sp__law_draw)) (g__law_leaf : Fk P w K mg base CX0 k "_law_leaf" ["_law_state_here", "_law_operations_here", "_law_count"] (sp__law_leaf)) (z_len : mg "len" = none) (z_range : mg "range" = none) (g__law_term : Fk P w K mg base CX0 k "_law_term" ["_law_state_here", "_law_operations_here", "_law_count", "_law_height"] (sp__law_term n)) : Fk P w K mg base CX0 (k + 1) "_law_term" ["_law_state_here", "_law_operations_here", "_law_count", "_law_height"] (sp__law_term (n + 1)) := by
  have sc := sc__law_term
  exact okF F sc (fun _ _ _ _ _ _ us hl => match us, hl with | [_, _, _, _], _ => rfl) len__law_term fun cdv A outer s H E G f hr hgd => ⟨_, a__law_term n,
    dss_cons (ds_if (DW.dt (dw_or (dt_cmp (op_eqP (hu151 hr)) sr_eq (dv 3) (de_int) (nomark _)) (dw_or1 (dt_cmp (op_eqP (hu151 hr)) sr_eq (de_fn g__law_draw hr hgd (da_cons (dv 0) (da_cons (de_int) (da_nil)))) (de_int) (nomark _))))) (dss_one (ds_ret (de_fn g__law_leaf hr hgd (da_cons (dv 0) (da_cons (dv 1) (da_cons (dv 2) (da_nil))))))) (dss_nil)) (dss_cons (ds_asg (de_ix (ix_all (hu_of hr)) sr_ix (dv 1) (de_op (op_addA) sr_add (de_int) (de_fn g__law_draw hr hgd (da_cons (dv 0) (da_cons (de_op op_sub sr_i0 (de_callB call_lenA sc_len (by rfl) z_len (by decide +kernel) (da_cons (dv 1) (da_nil))) (de_int)) (da_nil)))))) (dg_tup rfl (dgs_cons (dg_name (i := 4) sc.nd rfl (.inl rfl)) (dgs_cons (dg_name (i := 5) sc.nd rfl (.inl rfl)) (dgs_nil))))) (dss_cons (ds_set (i := 6) sc.nd rfl (.inl rfl) (de_tup (da_cons (dv 4) (da_nil)))) (dss_cons (ds_for PassesOwn.never rfl (di_range1 (by rfl) z_range (da_cons (dv 5) (da_nil))) (dg_name (i := 7) sc.nd rfl (.inl rfl)) (dss_one (ds_set (i := 6) sc.nd rfl (.inl rfl) (de_op (op_addA) sr_add (dv 6) (de_tup (da_cons (de_fn g__law_term hr hgd (da_cons (dv 0) (da_cons (dv 1) (da_cons (dv 2) (da_cons (de_op op_sub sr_i0 (dv 3) (de_int)) (da_nil)))))) (da_nil))))))) (dss_one (ds_ret (dv 6)))))),
    fun ds W QD ED h => rd__law_term h⟩
theorem all__law_term {P : Program} {w : World} {K : PySem.W.Frag} {mg : Str → Option Value} {base : Heap} {k : Nat} (F : Df K mg "_law_term" "_law_term" s__law_term) (g__law_draw : Fk P w K mg base CX0 k "_law_draw" ["_law_state_here", "_law_many"] (sp__law_draw)) (g__law_leaf : Fk P w K mg base CX0 k "_law_leaf" ["_law_state_here", "_law_operations_here", "_law_count"] (sp__law_leaf)) (z_len : mg "len" = none) (z_range : mg "range" = none) : ∀ n : Nat, Fk P w K mg base CX0 (k + n) "_law_term" ["_law_state_here", "_law_operations_here", "_law_count", "_law_height"] (sp__law_term n)
  | 0 => (Fk.none F none__law_term (fun _ _ _ _ _ _ us hl => match us, hl with | [_, _, _, _], _ => rfl)).mono (Nat.zero_le _)
  | n + 1 => ok__law_term n F  (g__law_draw.mono (Nat.le_add_right _ _)) (g__law_leaf.mono (Nat.le_add_right _ _)) z_len z_range (all__law_term F  g__law_draw g__law_leaf z_len z_range n)
def sp__law_same (n : Nat) : SpD := fun ds W Q _ => ∃ t u : Trm, ds = [t.d, u.d] ∧ t.depth ≤ n ∧ t.size ≤ 1000000 ∧ Q (.bl (decide (t = u))) W
theorem len__law_same {n : Nat} : ∀ ds W Q E, sp__law_same n ds W Q E → ds.length = 2 := by
  rintro ds W Q E ⟨_, _, rfl, _⟩; rfl
theorem none__law_same : ∀ ds W Q E, ¬ sp__law_same 0 ds W Q E := fun ds W Q E ⟨t, _, _, h, _⟩ => by have := t.depth_pos; omega
theorem gc__law_same {n : Nat} {t u : Trm} {W : Wd} {Q : DQ} {E : DX} (h1 : t.depth ≤ n) (h2 : t.size ≤ 1000000) (k : Q (.bl (decide (t = u))) W) : sp__law_same n [t.d, u.d] W Q E := ⟨t, u, rfl, h1, h2, k⟩

abbrev n__law_same : List Str := ["_law_first", "_law_second", "_law_k"]
theorem sd__law_same (x0 x1 : D) : startD n__law_same [x0, x1] = [some x0, some x1, none] := rfl
def b1__law_same (n : Nat) : AS := aIfS (aNot (aTest (aCall (sp__law_same n) [] ED0 (aCons (aOp dIx (aVar 0) (aVar 2)) (aCons (aOp dIx (aVar 1) (aVar 2)) (aNil)))))) (aRet (aC (.bl false))) (aNext)
def a__law_same (n : Nat) : AS := aSeq (aIfS (aOr (aTest (aCB (dIsi) (aCons (aVar 0) (aCons (aC (.ty "bool")) (aNil))))) (aTest (aCB (dIsi) (aCons (aVar 1) (aCons (aC (.ty "bool")) (aNil)))))) (aRet (aC (.bl false))) (aNext)) (aSeq (aIfS (aOr (aTest (aCB (dIsi) (aCons (aVar 0) (aCons (aC (.ty "int")) (aNil))))) (aTest (aCB (dIsi) (aCons (aVar 1) (aCons (aC (.ty "int")) (aNil)))))) (aRet (aAndV (aCB (dIsi) (aCons (aVar 0) (aCons (aC (.ty "int")) (aNil)))) (aAndV (aCB (dIsi) (aCons (aVar 1) (aCons (aC (.ty "int")) (aNil)))) (aOp (dEq) (aVar 0) (aVar 1))))) (aNext)) (aSeq (aIfS (aOr (aNot (aTest (aCB (dIsi) (aCons (aVar 0) (aCons (aC (.ty "tuple")) (aNil)))))) (aOr (aNot (aTest (aCB (dIsi) (aCons (aVar 1) (aCons (aC (.ty "tuple")) (aNil)))))) (aTest (aOp (dNe) (aCB (dLen) (aCons (aVar 0) (aNil))) (aCB (dLen) (aCons (aVar 1) (aNil))))))) (aRet (aC (.bl false))) (aNext)) (aSeq (aIfS (aOr (aTest (aOp (dEq) (aCB (dLen) (aCons (aVar 0) (aNil))) (aC (.int 0)))) (aOr (aNot (aTest (aCB (dIsi) (aCons (aOp dIx (aVar 0) (aC (.int 0))) (aCons (aC (.ty "str")) (aNil)))))) (aTest (aOp (dNe) (aOp dIx (aVar 0) (aC (.int 0))) (aOp dIx (aVar 1) (aC (.int 0))))))) (aRet (aC (.bl false))) (aNext)) (aSeq (aFor (aiRng2 (aCons (aC (.int 1)) (aCons (aCB (dLen) (aCons (aVar 0) (aNil))) (aNil)))) (agName 2) (b1__law_same n)) (aRet (aC (.bl true)))))))
theorem rd__law_same {n : Nat} {ds : List D} {W : Wd} {Q : DQ} {E : DX} (h : sp__law_same (n + 1) ds W Q E) : a__law_same n (EN Q) (startD n__law_same ds) W := by
  obtain ⟨t, u, rfl, hd, hz, q⟩ := h
  unfold a__law_same
  cases t with
  | var v =>
    cases u with
    | var w =>
      rw [Trm.d_var, Trm.d_var]
      walk_at "rs"
      simpa using q
    | app g us =>
      rw [Trm.d_var, Trm.d_app]
      walk_at "rs"
      simpa using q
  | app f ts =>
    cases u with
    | var w =>
      rw [Trm.d_var, Trm.d_app]
      walk_at "rs"
      simpa using q
    | app g us =>
      have hd := depth_app_le.mp hd
      have hls := length_sizes ts
      rw [Trm.size] at hz
      rw [Trm.d_app, Trm.d_app]
      by_cases hfg : f = g ∧ ts.length = us.length
      · obtain ⟨rfl, hl⟩ := hfg
        have hc : (((D.str f :: ts.map Trm.d).length : Nat) : Int) = ((D.str f :: us.map Trm.d).length : Nat) := by simp [hl]
        have hn0 : ¬ (((D.str f :: ts.map Trm.d).length : Nat) : Int) = 0 := by simp; omega
        have hln : (D.str f :: ts.map Trm.d).length ≤ 2000000 := by simp; omega
        walk_at "rs"
        all_goals first
          | (exfalso; exact absurd hc (by assumption))
          | (exfalso; exact absurd (by assumption) hn0)
          | skip
        refine forL_inv (items := rangeD 1 (((D.str f :: ts.map Trm.d).length : Int) - 1).toNat) (fun ds δ W' => ∃ (i : Nat) (x : Option D), W' = W ∧ ds = rangeD (1 + i) (ts.length - i) ∧ i ≤ ts.length ∧
          δ = [some (.tup (.str f :: ts.map Trm.d)), some (.tup (.str f :: us.map Trm.d)), x] ∧ ts.take i = us.take i) ?_ (fun _ _ _ _ => trivial) ?_ ?_
        · refine ⟨0, none, rfl, ?_, Nat.zero_le _, rfl, by simp⟩
          congr 1; simp
        · rintro d ds δ W' N ⟨i, x, rfl, e, hi, rfl, hm⟩ kk
          have hlt : i < ts.length := by
            by_cases h : i < ts.length
            · exact h
            · rw [show ts.length - i = 0 by omega] at e; cases e
          have hlt2 : i < us.length := by omega
          rw [show ts.length - i = (ts.length - (i + 1)) + 1 by omega, rangeD_succ] at e
          cases e
          have hmem : ts[i] ∈ ts := List.getElem_mem _
          unfold b1__law_same
          walk_at "rd"
          refine go_ixT (d := ts[i].d) (by rw [atI_of (by omega), show (1 + (i : Int)).toNat = i + 1 by omega]; simp [hlt]) ?_
          walk_at "rd"
          refine go_ixT (d := us[i].d) (by rw [atI_of (by omega), show (1 + (i : Int)).toNat = i + 1 by omega]; simp [hlt2]) ?_
          walk_at "rd"
          refine gc__law_same (hd _ hmem) (by have := size_mem hmem; omega) ?_
          walk_at "rd"
          by_cases eb : ts[i] = us[i]
          · rw [decide_eq_true eb]
            walk_at "rd"
            refine kk _ _ ⟨i + 1, _, rfl, by rw [show (1 + (i : Int) + 1) = 1 + ((i + 1 : Nat) : Int) by omega], by omega, rfl, ?_⟩
            rw [List.take_succ_eq_append_getElem hlt, List.take_succ_eq_append_getElem hlt2, hm, eb]
          · rw [decide_eq_false eb]
            walk_at "rd"
            have : ¬ Trm.app f ts = Trm.app f us := fun h => by
              injection h with _ h
              subst h
              exact eb rfl
            rw [decide_eq_false this] at q
            exact q
        · rintro δ W' ⟨i, x, rfl, e, hi, rfl, hm⟩
          have hge : ts.length - i = 0 := by
            cases h : ts.length - i with
            | zero => rfl
            | succ m => rw [h, rangeD_succ] at e; cases e
          rw [List.take_of_length_le (by omega : ts.length ≤ i), List.take_of_length_le (by omega : us.length ≤ i)] at hm
          subst hm
          walk_at "rd"
          simpa using q
      · have q : Q (.bl false) W := by
          have : ¬ Trm.app f ts = Trm.app g us := fun h => by
            injection h with h1 h2
            exact hfg ⟨h1, by rw [h2]⟩
          rw [decide_eq_false this] at q
          exact q
        have hln : (D.str f :: ts.map Trm.d).length ≤ 2000000 := by simp; omega
        walk_at "rs"
        all_goals first
          | exact q
          | (exfalso; exact hfg ⟨by assumption, by simp at *; omega⟩)

theorem sc__law_same : FnScope ["_law_first", "_law_second", "_law_k"] ["_law_first", "_law_second"] (defScope s__law_same) := ⟨rfl, rfl, rfl, by decide +kernel, rfl, by decide +kernel, by decide +kernel⟩
theorem ok__law_same {P : Program} {w : World} {K : PySem.W.Frag} {mg : Str → Option Value} {base : Heap} {k : Nat} (n : Nat) (F : Df K mg "_law_same" "_law_same" s__law_same) (z_isinstance : mg "isinstance" = none) (z_bool : mg "bool" = none) (z_int : mg "int" = none) (z_tuple : mg "tuple" = none) (z_len : mg "len" = none) (z_str : mg "str" = none) (z_range : mg "range" = none) (g__law_same : Fk P w K mg base CX0 k "_law_same" ["_law_first", "_law_second"] (sp__law_same n)) : Fk P w K mg base CX0 (k + 1) "_law_same" ["_law_first", "_law_second"] (sp__law_same (n + 1)) := by
  have sc := sc__law_same
  exact okF F sc (fun _ _ _ _ _ _ us hl => match us, hl with | [_, _], _ => rfl) len__law_same fun cdv A outer s H E G f hr hgd => ⟨_, a__law_same n,
    dss_cons (ds_if (DW.dt (dw_or (dt_val (de_callB call_isi sc_isi (by rfl) z_isinstance (by decide +kernel) (da_cons (dv 0) (da_cons (de_bty (by rfl) z_bool (by decide +kernel)) (da_nil))))) (dw_or1 (dt_val (de_callB call_isi sc_isi (by rfl) z_isinstance (by decide +kernel) (da_cons (dv 1) (da_cons (de_bty (by rfl) z_bool (by decide +kernel)) (da_nil)))))))) (dss_one (ds_ret (de_bl))) (dss_nil)) (dss_cons (ds_if (DW.dt (dw_or (dt_val (de_callB call_isi sc_isi (by rfl) z_isinstance (by decide +kernel) (da_cons (dv 0) (da_cons (de_bty (by rfl) z_int (by decide +kernel)) (da_nil))))) (dw_or1 (dt_val (de_callB call_isi sc_isi (by rfl) z_isinstance (by decide +kernel) (da_cons (dv 1) (da_cons (de_bty (by rfl) z_int (by decide +kernel)) (da_nil)))))))) (dss_one (ds_ret (de_and (de_callB call_isi sc_isi (by rfl) z_isinstance (by decide +kernel) (da_cons (dv 0) (da_cons (de_bty (by rfl) z_int (by decide +kernel)) (da_nil)))) (de_and (de_callB call_isi sc_isi (by rfl) z_isinstance (by decide +kernel) (da_cons (dv 1) (da_cons (de_bty (by rfl) z_int (by decide +kernel)) (da_nil)))) (de_one (de_cmp (op_eqP (hu151 hr)) sr_eq (dv 0) (dv 1) (nomark _))))))) (dss_nil)) (dss_cons (ds_if (DW.dt (dw_or (dt_not (dt_val (de_callB call_isi sc_isi (by rfl) z_isinstance (by decide +kernel) (da_cons (dv 0) (da_cons (de_bty (by rfl) z_tuple (by decide +kernel)) (da_nil)))))) (dw_or (dt_not (dt_val (de_callB call_isi sc_isi (by rfl) z_isinstance (by decide +kernel) (da_cons (dv 1) (da_cons (de_bty (by rfl) z_tuple (by decide +kernel)) (da_nil)))))) (dw_or1 (dt_cmp (op_neP (hu151 hr)) sr_ne (de_callB call_lenA sc_len (by rfl) z_len (by decide +kernel) (da_cons (dv 0) (da_nil))) (de_callB call_lenA sc_len (by rfl) z_len (by decide +kernel) (da_cons (dv 1) (da_nil))) (nomark _)))))) (dss_one (ds_ret (de_bl))) (dss_nil)) (dss_cons (ds_if (DW.dt (dw_or (dt_cmp (op_eqP (hu151 hr)) sr_eq (de_callB call_lenA sc_len (by rfl) z_len (by decide +kernel) (da_cons (dv 0) (da_nil))) (de_int) (nomark _)) (dw_or (dt_not (dt_val (de_callB call_isi sc_isi (by rfl) z_isinstance (by decide +kernel) (da_cons (de_ix (ix_all (hu_of hr)) sr_ix (dv 0) (de_int)) (da_cons (de_bty (by rfl) z_str (by decide +kernel)) (da_nil)))))) (dw_or1 (dt_cmp (op_neP (hu151 hr)) sr_ne (de_ix (ix_all (hu_of hr)) sr_ix (dv 0) (de_int)) (de_ix (ix_all (hu_of hr)) sr_ix (dv 1) (de_int)) (nomark _)))))) (dss_one (ds_ret (de_bl))) (dss_nil)) (dss_cons (ds_for PassesOwn.never rfl (di_range2 (by rfl) z_range (da_cons (de_int) (da_cons (de_callB call_lenA sc_len (by rfl) z_len (by decide +kernel) (da_cons (dv 0) (da_nil))) (da_nil)))) (dg_name (i := 2) sc.nd rfl (.inl rfl)) (dss_one (ds_if (dt_not (dt_val (de_fn g__law_same hr hgd (da_cons (de_ix (ix_all (hu_of hr)) sr_ix (dv 0) (dv 2)) (da_cons (de_ix (ix_all (hu_of hr)) sr_ix (dv 1) (dv 2)) (da_nil)))))) (dss_one (ds_ret (de_bl))) (dss_nil)))) (dss_one (ds_ret (de_bl))))))),
    fun ds W QD ED h => rd__law_same h⟩
theorem all__law_same {P : Program} {w : World} {K : PySem.W.Frag} {mg : Str → Option Value} {base : Heap} {k : Nat} (F : Df K mg "_law_same" "_law_same" s__law_same) (z_isinstance : mg "isinstance" = none) (z_bool : mg "bool" = none) (z_int : mg "int" = none) (z_tuple : mg "tuple" = none) (z_len : mg "len" = none) (z_str : mg "str" = none) (z_range : mg "range" = none) : ∀ n : Nat, Fk P w K mg base CX0 (k + n) "_law_same" ["_law_first", "_law_second"] (sp__law_same n)
  | 0 => (Fk.none F none__law_same (fun _ _ _ _ _ _ us hl => match us, hl with | [_, _], _ => rfl)).mono (Nat.zero_le _)
  | n + 1 => ok__law_same n F  z_isinstance z_bool z_int z_tuple z_len z_str z_range (all__law_same F  z_isinstance z_bool z_int z_tuple z_len z_str z_range n)
def sp__law_signature : SpD := fun ds W Q _ => ∃ ops, ds = [.lst (ops.map opD)] ∧ Ops ops ∧ ∀ p a b c, Dst4 p a b c → W p = none → W a = none → W b = none → W c = none → Q (.ptr p) (sgW W p a b c (sg0 ops))
theorem len__law_signature : ∀ ds W Q E, sp__law_signature ds W Q E → ds.length = 1 := by
  rintro ds W Q E ⟨_, rfl, _⟩; rfl
theorem gc__law_signature {ops : Sig} {W : Wd} {Q : DQ} {E : DX} (hO : Ops ops) (h : ∀ p a b c, Dst4 p a b c → W p = none → W a = none → W b = none → W c = none → Q (.ptr p) (sgW W p a b c (sg0 ops))) : sp__law_signature [.lst (ops.map opD)] W Q E := ⟨ops, rfl, hO, h⟩

abbrev n__law_signature : List Str := ["_law_operations_here", "_law_signature_here", "_law_name", "_law_arity"]
theorem sd__law_signature (x0 : D) : startD n__law_signature [x0] = [some x0, none, none, none] := rfl
def b1__law_signature  : AS := aDrop (aMethN "Signature" "declare" 2 0 [.p 0, .p 1, .p 2, .m 0] [(.bl false : D)] (sp_Signature_declare) AW.none (aVar 1) (aCons (aVar 2) (aCons (aVar 3) (aNil))) (aNil))
def a__law_signature  : AS := aSeq (aAsg (aMake "Signature" (sp_Signature___init__) [] AW.none aNil) (agName 1)) (aSeq (aFor (aiSeq (aVar 0)) (agTup 2 (agCons (agName 2) (agCons (agName 3) (agNil)))) (b1__law_signature)) (aRet (aVar 1)))
theorem rd__law_signature {ds : List D} {W : Wd} {Q : DQ} {E : DX} (h : sp__law_signature ds W Q E) : a__law_signature (EN Q) (startD n__law_signature ds) W := by
  obtain ⟨ops, rfl, hO, q⟩ := h
  have hlen := hO.len
  unfold a__law_signature
  walk_at "rd"
  intro p hp
  walk_at "rd"
  refine gc_Signature hp fun a b c d wa wb wc => ⟨rfl, ?_⟩
  walk_at "rd"
  refine forL_inv (items := ops.map opD) (fun ds δ W' => ∃ (us vs : Sig) (x y : Option D), W' = sgW W p a b c (sg0 vs) ∧ ds = us.map opD ∧ vs ++ us = ops ∧ δ = [some (.lst (ops.map opD)), some (.ptr p), x, y]) ⟨ops, [], none, none, rfl, rfl, rfl, rfl⟩ (fun _ _ _ _ => trivial) ?_ ?_
  · rintro d' ds δ W' N ⟨us, vs, x, y, rfl, e, hv, rfl⟩ kk
    cases us with
    | nil => cases e
    | cons z us =>
      rw [List.map_cons] at e
      cases e
      obtain ⟨f, m⟩ := z
      have hm : (f, m) ∈ ops := by rw [← hv]; simp
      have hN : Nm f := hO.2.2.2 _ hm
      have hm3 : m ≤ 3 := hO.le3 hm
      have lv := congrArg List.length hv
      rw [List.length_append, List.length_cons] at lv
      have lm : (sg0 vs).length = vs.length := mkS_len (fl0_len vs)
      have notin : f ∉ (sg0 vs).names := by
        rw [mkS_names (fl0_len vs)]
        have nd := hO.2.2.1
        rw [← hv, List.map_append, List.nodup_append] at nd
        intro z
        exact nd.2.2 _ z _ (List.mem_map_of_mem List.mem_cons_self) rfl
      have wp := d.wp (W := W) (S := sg0 vs)
      unfold b1__law_signature
      rw [show opD (f, m) = .tup [.str f, .int m] from rfl]
      walk_at "rd"
      refine ⟨rfl, rfl, ?_⟩
      simp only [pick, List.getElem?_cons_zero, List.getElem?_cons_succ, Option.toList_some, List.cons_append, List.nil_append]
      refine gc_declare d (by have := hN.2.2; omega) (by omega) (spDecl_ok hN.isName (by omega) (by omega) (fun z => by cases z) notin (by omega) ?_)
      walk_at "rd"
      refine kk _ _ ⟨us, vs ++ [(f, m)], _, _, ?_, rfl, by rw [← hv]; simp, rfl⟩
      rw [show sg0 (vs ++ [(f, m)]) = sg0 vs ++ [(f, (m : Int), false)] by
        unfold sg0 fl0
        rw [List.map_append]
        exact mkS_app (x := (f, m)) (f := false) (fl0_len vs)]
  · rintro δ W' ⟨us, vs, x, y, rfl, e, hv, rfl⟩
    cases us with
    | cons _ _ => cases e
    | nil =>
      rw [List.append_nil] at hv
      subst hv
      walk_at "rd"
      exact q p a b c d hp wa wb wc

theorem sc__law_signature : FnScope ["_law_operations_here", "_law_signature_here", "_law_name", "_law_arity"] ["_law_operations_here"] (defScope s__law_signature) := ⟨rfl, rfl, rfl, by decide +kernel, rfl, by decide +kernel, by decide +kernel⟩
theorem ok__law_signature {P : Program} {w : World} {K : PySem.W.Frag} {mg : Str → Option Value} {base : Heap} {k : Nat}  (F : Df K mg "_law_signature" "_law_signature" s__law_signature) {j : Nat} (hj : j + 1 ≤ k) (j_Signature : FkM P w K mg base CX0 j (He.ma K (He.ga K "Signature") "__init__") ["self"] (sp_Signature___init__)) (mk_Signature : Mk K (He.ga K "Signature") (He.ma K (He.ga K "Signature") "__init__")) (gl_Signature : mg "Signature" = some (.ref (He.ga K "Signature"))) (n_Signature_declare_3 : FkN P w K mg base (L2.CX P w) k (He.ma K (He.ga K "Signature") "declare") ["self", "name", "arity", "commutative"] 3 [] [.p 0, .p 1, .p 2, .m 0] [(.bl false : V)] (sp_Signature_declare)) (m_Signature_declare : Meth K (He.ga K "Signature") "declare" (He.ma K (He.ga K "Signature") "declare")) (k_Signature : Cls K (He.ga K "Signature")) : Fk P w K mg base CX0 (k + 1) "_law_signature" ["_law_operations_here"] (sp__law_signature) := by
  have sc := sc__law_signature
  exact okF F sc (fun _ _ _ _ _ _ us hl => match us, hl with | [_], _ => rfl) len__law_signature fun cdv A outer s H E G f hr hgd => ⟨_, a__law_signature ,
    dss_cons (ds_set (i := 1) sc.nd rfl (.inl rfl) (de_make0K K (E := fun _ => E0) (fun _ => passA0) liftS_none mk_Signature j_Signature gl_Signature (hr.mono hj) hgd)) (dss_cons (ds_for PassesOwn.never rfl (di_seq (dv 0)) (dg_tup rfl (dgs_cons (dg_name (i := 2) sc.nd rfl (.inl rfl)) (dgs_cons (dg_name (i := 3) sc.nd rfl (.inl rfl)) (dgs_nil)))) (dss_one (ds_expr (de_methNK (n := 2) (ks := []) (src := [.p 0, .p 1, .p 2, .m 0]) (ms := [(.bl false : V)]) (md := [(.bl false : D)]) K (E := fun _ => E0) passNo liftS_none k_Signature m_Signature_declare n_Signature_declare_3 (fun _ => ⟨_, _, rfl, rfl, rfl⟩) hr hgd (dv 1) (da_cons (dv 2) (da_cons (dv 3) (da_nil))) (dk_nil))))) (dss_one (ds_ret (dv 1)))),
    fun ds W QD ED h => rd__law_signature h⟩
def sp__law_told : SpD := fun ds W Q _ => ∃ (t : Thy) (ops : Sig) (l r : Trm), ds = [.ptr t.T, l.d, r.d] ∧ ThyO W t ∧ t.S = sg0 ops ∧ (ops.map Prod.fst).Nodup ∧ (∀ z ∈ t.E, z.1 < t.n) ∧ t.E.length ≤ 1000 ∧ (l.depth ≤ 30 ∧ l.size ≤ 400) ∧ (r.depth ≤ 30 ∧ r.size ≤ 400) ∧
  ((∃ z, (l.bad ops).or (r.bad ops) = some (true, z) ∧ Q (.tup [.str "unknown", .str z]) W) ∨ (l.bad ops = none ∧ r.bad ops = none ∧ (∃ v ∈ l.vars ++ r.vars, 9 < v) ∧ Q (.tup [.str "large", .int 0]) W) ∨
   (l.bad ops = none ∧ r.bad ops = none ∧ (∀ v ∈ l.vars ++ r.vars, v ≤ 9) ∧ ∀ W', ThyO W' (t.plus l r) → (∀ z, z ≠ t.T → z ≠ t.e → W' z = W z) → Q (.tup [.str "number", .int t.n]) W'))
theorem len__law_told : ∀ ds W Q E, sp__law_told ds W Q E → ds.length = 3 := by
  rintro ds W Q E ⟨_, _, _, _, rfl, _⟩; rfl

abbrev n__law_told : List Str := ["_law_theory", "_law_left", "_law_right", "e"]
theorem sd__law_told (x0 x1 x2 : D) : startD n__law_told [x0, x1, x2] = [some x0, some x1, some x2, none] := rfl
def a__law_told  : AS := aTryM (fun WD => aRet (aTup (aCons (aC (.str "number")) (aCons (aMeth "Theory" "add" (sp_Theory_add) [] WD (aVar 0) (aCons (aVar 1) (aCons (aVar 2) (aNil)))) (aNil))))) [⟨"UnknownName", some "name", some 3, fun a d => aRet (aTup (aCons (aC (.str "unknown")) (aCons (aXf 3 a d) (aNil))))⟩, ⟨"TooLarge", none, none, fun a d => aRet (aTup (aCons (aC (.str "large")) (aCons (aC (.int 0)) (aNil))))⟩]
theorem rd__law_told {ds : List D} {W : Wd} {Q : DQ} {E : DX} (h : sp__law_told ds W Q E) : a__law_told (EN Q) (startD n__law_told ds) W := by
  obtain ⟨t, ops, l, r, rfl, ht, hS, nd, hE, hl, h6, h7, hc⟩ := h
  unfold a__law_told
  walk_at "rd"
  refine ⟨⟨_, objOf_ptr ht.wT, rfl⟩, ?_⟩
  walk_at "rd"
  rcases hc with ⟨z, ez, q⟩ | ⟨e1, e2, e3, q⟩ | ⟨e1, e2, e3, q⟩
  · refine gc_add ht hS nd hE hl h6 h7 (fun x e => ?_) (fun a b _ => by rw [a, b] at ez; cases ez) (fun a b _ => by rw [a, b] at ez; cases ez)
    rw [ez] at e
    cases e
    refine goM_yes 0 rfl fun a ha => ?_
    walk_at "rd"
    exact q
  · refine gc_add ht hS nd hE hl h6 h7 (fun x e => by rw [e1, e2] at e; cases e) (fun _ _ _ => ?_) (fun _ _ h => by obtain ⟨v, hv, h9⟩ := e3; have := h v hv; omega)
    refine goM_nn 1 rfl ?_
    walk_at "rd"
    exact q
  · refine gc_add ht hS nd hE hl h6 h7 (fun x e => by rw [e1, e2] at e; cases e) (fun _ _ ⟨v, hv, h9⟩ => by have := e3 v hv; omega) (fun _ _ _ W' h1 h2 => ?_)
    walk_at "rd"
    exact q W' h1 h2

theorem sc__law_told : FnScope ["_law_theory", "_law_left", "_law_right", "e"] ["_law_theory", "_law_left", "_law_right"] (defScope s__law_told) := ⟨rfl, rfl, rfl, by decide +kernel, rfl, by decide +kernel, by decide +kernel⟩
theorem ok__law_told {P : Program} {w : World} {K : PySem.W.Frag} {mg : Str → Option Value} {base : Heap} {k : Nat}  (F : Df K mg "_law_told" "_law_told" s__law_told) (b_Theory_add : FkM P w K mg base (L2.CX P w) k (He.ma K (He.ga K "Theory") "add") ["self", "left", "right"] (sp_Theory_add)) (m_Theory_add : Meth K (He.ga K "Theory") "add" (He.ma K (He.ga K "Theory") "add")) (k_Theory : Cls K (He.ga K "Theory")) (xf_UnknownName : XfC K (He.ga K "UnknownName")) (su_UnknownName : SupF P K (He.ga K "UnknownName") "name" (defArgs s_UnknownName___init__) (defBody s_UnknownName___init__) (defScope s_UnknownName___init__)) (gl_UnknownName : mg "UnknownName" = some (.ref (He.ga K "UnknownName"))) (exm_UnknownName_UnknownName : PySem.W.exmOne K (.ref (He.ga K "UnknownName")) (.ref (He.ga K "UnknownName")) = some true) (exmF_TooLarge_UnknownName : PySem.W.exmOne K (.ref (He.ga K "TooLarge")) (.ref (He.ga K "UnknownName")) = some false) (gl_TooLarge : mg "TooLarge" = some (.ref (He.ga K "TooLarge"))) (exm_TooLarge_TooLarge : PySem.W.exmOne K (.ref (He.ga K "TooLarge")) (.ref (He.ga K "TooLarge")) = some true) : Fk P w K mg base CX0 (k + 1) "_law_told" ["_law_theory", "_law_left", "_law_right"] (sp__law_told) := by
  have sc := sc__law_told
  exact okF F sc (fun _ _ _ _ _ _ us hl => match us, hl with | [_, _, _], _ => rfl) len__law_told fun cdv A outer s H E G f hr hgd => ⟨_, a__law_told ,
    dss_one (ds_tryM rfl rfl sc.nd takes0 (fun W WD pn xe G1 hs1 htk hpo hl => dss_one (ds_ret (de_tup (da_cons (de_str) (da_cons (de_methK K (fun σ => passAt htk σ) hl k_Theory m_Theory_add b_Theory_add hr hgd (dv 0) (da_cons (dv 1) (da_cons (dv 2) (da_nil)))) (da_nil)))))) (.cons ⟨by rfl, by decide, .inl gl_UnknownName⟩ (.inr ⟨_, 3, rfl, rfl, rfl, rfl⟩) (.yes fun a q oe pn G1 v d hz hf hG hd => dss_one (ds_ret (de_tup (da_cons (de_str) (da_cons (de_xf xf_UnknownName su_UnknownName.noF hz hf hG hd (pv 3)) (da_nil)))))) exm_UnknownName_UnknownName (by intro g hg; simp only [List.mem_cons, List.not_mem_nil, or_false] at hg; rcases hg with rfl <;> assumption) (.cons ⟨by rfl, by decide, .inl gl_TooLarge⟩ (.inl ⟨rfl, rfl⟩) (.nn fun a oe pn hf => dss_one (ds_ret (de_tup (da_cons (de_str) (da_cons (de_int) (da_nil)))))) exm_TooLarge_TooLarge (by intro g hg; cases hg) .nil))),
    fun ds W QD ED h => rd__law_told h⟩
def sp__law_drop : SpD := fun ds W Q _ => ∃ (t : Thy) (n : Int), ds = [.ptr t.T, .int n] ∧ ThyO W t ∧
  (∀ z, eqOf t.E n = some z → ∀ W', ThyO W' (t.less n) → (∀ z, z ≠ t.e → W' z = W z) → Q (.tup [.str "dropped", .tup [z.1.d, z.2.d]]) W') ∧ (eqOf t.E n = none → Q (.tup [.str "missing", .bl true]) W)
theorem len__law_drop : ∀ ds W Q E, sp__law_drop ds W Q E → ds.length = 2 := by
  rintro ds W Q E ⟨_, _, rfl, _⟩; rfl
theorem gc__law_drop {t : Thy} {n : Int} {W : Wd} {Q : DQ} {E : DX} (h : ThyO W t) (k : ∀ z, eqOf t.E n = some z → ∀ W', ThyO W' (t.less n) → (∀ z, z ≠ t.e → W' z = W z) → Q (.tup [.str "dropped", .tup [z.1.d, z.2.d]]) W') (k' : eqOf t.E n = none → Q (.tup [.str "missing", .bl true]) W) : sp__law_drop [.ptr t.T, .int n] W Q E := ⟨t, n, rfl, h, k, k'⟩

abbrev n__law_drop : List Str := ["_law_theory", "_law_number_here", "e"]
theorem sd__law_drop (x0 x1 : D) : startD n__law_drop [x0, x1] = [some x0, some x1, none] := rfl
def a__law_drop  : AS := aTryAs 2 "NotFound" (fun WD => aRet (aTup (aCons (aC (.str "dropped")) (aCons (aMeth "Theory" "drop" (sp_Theory_drop) [] WD (aVar 0) (aCons (aVar 1) (aNil))) (aNil))))) (fun a => aRet (aTup (aCons (aC (.str "missing")) (aCons (aIsE 2 a true) (aNil)))))
theorem rd__law_drop {ds : List D} {W : Wd} {Q : DQ} {E : DX} (h : sp__law_drop ds W Q E) : a__law_drop (EN Q) (startD n__law_drop ds) W := by
  obtain ⟨t, n, rfl, ht, q, q'⟩ := h
  unfold a__law_drop
  walk_at "rd"
  refine ⟨⟨_, objOf_ptr ht.wT, rfl⟩, ?_⟩
  walk_at "rd"
  refine gc_drop ht (fun z e W' h1 h2 => ?_) fun e => ?_
  · walk_at "rd"
    exact q z e W' h1 h2
  · refine ⟨by simp, rfl, fun a ha => ?_⟩
    walk_at "rd"
    exact q' e

theorem sc__law_drop : FnScope ["_law_theory", "_law_number_here", "e"] ["_law_theory", "_law_number_here"] (defScope s__law_drop) := ⟨rfl, rfl, rfl, by decide +kernel, rfl, by decide +kernel, by decide +kernel⟩
theorem ok__law_drop {P : Program} {w : World} {K : PySem.W.Frag} {mg : Str → Option Value} {base : Heap} {k : Nat}  (F : Df K mg "_law_drop" "_law_drop" s__law_drop) (b_Theory_drop : FkM P w K mg base (L2.CX P w) k (He.ma K (He.ga K "Theory") "drop") ["self", "number"] (sp_Theory_drop)) (m_Theory_drop : Meth K (He.ga K "Theory") "drop" (He.ma K (He.ga K "Theory") "drop")) (k_Theory : Cls K (He.ga K "Theory")) (exm_NotFound_NotFound : PySem.W.exmOne K (.ref (He.ga K "NotFound")) (.ref (He.ga K "NotFound")) = some true) (gl_NotFound : mg "NotFound" = some (.ref (He.ga K "NotFound"))) (xc_NotFound : ExcC K (He.ga K "NotFound")) (ist_NotFound_ValueError : PySem.W.kitOne K (.ref (He.ga K "NotFound")) (.type "ValueError") = some true) (z_ValueError : mg "ValueError" = none) (z_isinstance : mg "isinstance" = none) : Fk P w K mg base CX0 (k + 1) "_law_drop" ["_law_theory", "_law_number_here"] (sp__law_drop) := by
  have sc := sc__law_drop
  exact okF F sc (fun _ _ _ _ _ _ us hl => match us, hl with | [_, _], _ => rfl) len__law_drop fun cdv A outer s H E G f hr hgd => ⟨_, a__law_drop ,
    dss_one (ds_tryAs (i := 2) "NotFound" rfl rfl sc.nd rfl rfl ⟨by rfl, by decide, .inl gl_NotFound⟩ exm_NotFound_NotFound takes0 (fun W WD pn xe G1 hs1 htk hpo hl => dss_one (ds_ret (de_tup (da_cons (de_str) (da_cons (de_methK K (fun σ => passAt htk σ) hl k_Theory m_Theory_drop b_Theory_drop hr hgd (dv 0) (da_cons (dv 1) (da_nil))) (da_nil)))))) (fun a oe pn hz hf => dss_one (ds_ret (de_tup (da_cons (de_str) (da_cons (de_isE xc_NotFound hz hf (pv 2) (pe_bltn (v := .ty "ValueError") (u := .type "ValueError") (by rfl) z_ValueError (by decide +kernel) rfl (by decide) (by decide)) (fun _ h => h) ist_NotFound_ValueError z_isinstance) (da_nil))))))),
    fun ds W QD ED h => rd__law_drop h⟩
def sp__law_missing : SpD := fun ds W Q _ => ∃ (t : Thy) (n : Int), ds = [.ptr t.T, .int n] ∧ ThyO W t ∧ eqOf t.E n = none ∧ Q (.bl true) W
theorem len__law_missing : ∀ ds W Q E, sp__law_missing ds W Q E → ds.length = 2 := by
  rintro ds W Q E ⟨_, _, rfl, _⟩; rfl
theorem gc__law_missing {t : Thy} {n : Int} {W : Wd} {Q : DQ} {E : DX} (h : ThyO W t) (h1 : eqOf t.E n = none) (k : Q (.bl true) W) : sp__law_missing [.ptr t.T, .int n] W Q E := ⟨t, n, rfl, h, h1, k⟩

abbrev n__law_missing : List Str := ["_law_theory", "_law_number_here"]
theorem sd__law_missing (x0 x1 : D) : startD n__law_missing [x0, x1] = [some x0, some x1] := rfl
def a__law_missing  : AS := aSeq (aTry ["NotFound"] (fun WD => aDrop (aMeth "Theory" "equation" (sp_Theory_equation) [] WD (aVar 0) (aCons (aVar 1) (aNil)))) (aRet (aC (.bl true)))) (aRet (aC (.bl false)))
theorem rd__law_missing {ds : List D} {W : Wd} {Q : DQ} {E : DX} (h : sp__law_missing ds W Q E) : a__law_missing (EN Q) (startD n__law_missing ds) W := by
  obtain ⟨t, n, rfl, ht, e, q⟩ := h
  unfold a__law_missing
  walk_at "rd"
  refine ⟨⟨_, objOf_ptr ht.wT, rfl⟩, ?_⟩
  walk_at "rd"
  refine gc_equation ht (fun z e' => by rw [e] at e'; cases e') fun _ => ⟨by simp, ?_⟩
  walk_at "rd"
  exact q

theorem sc__law_missing : FnScope ["_law_theory", "_law_number_here"] ["_law_theory", "_law_number_here"] (defScope s__law_missing) := ⟨rfl, rfl, rfl, by decide +kernel, rfl, by decide +kernel, by decide +kernel⟩
theorem ok__law_missing {P : Program} {w : World} {K : PySem.W.Frag} {mg : Str → Option Value} {base : Heap} {k : Nat}  (F : Df K mg "_law_missing" "_law_missing" s__law_missing) (b_Theory_equation : FkM P w K mg base (L2.CX P w) k (He.ma K (He.ga K "Theory") "equation") ["self", "number"] (sp_Theory_equation)) (m_Theory_equation : Meth K (He.ga K "Theory") "equation" (He.ma K (He.ga K "Theory") "equation")) (k_Theory : Cls K (He.ga K "Theory")) (exm_NotFound_NotFound : PySem.W.exmOne K (.ref (He.ga K "NotFound")) (.ref (He.ga K "NotFound")) = some true) (gl_NotFound : mg "NotFound" = some (.ref (He.ga K "NotFound"))) : Fk P w K mg base CX0 (k + 1) "_law_missing" ["_law_theory", "_law_number_here"] (sp__law_missing) := by
  have sc := sc__law_missing
  exact okF F sc (fun _ _ _ _ _ _ us hl => match us, hl with | [_, _], _ => rfl) len__law_missing fun cdv A outer s H E G f hr hgd => ⟨_, a__law_missing ,
    dss_cons (ds_try ["NotFound"] rfl rfl ⟨by rfl, by decide, .inl gl_NotFound⟩ (by intro n hn; simp only [List.mem_cons, List.not_mem_nil, or_false] at hn; rcases hn with rfl <;> assumption) takes0 (fun W WD pn xe G1 hs1 htk hpo hl => dss_one (ds_expr (de_methK K (fun σ => passAt htk σ) hl k_Theory m_Theory_equation b_Theory_equation hr hgd (dv 0) (da_cons (dv 1) (da_nil))))) (fun a oe pn hf => dss_one (ds_ret (de_bl)))) (dss_one (ds_ret (de_bl))),
    fun ds W QD ED h => rd__law_missing h⟩
def entT (z : Int × Trm × Trm) : D := .tup [.int z.1, z.2.1.d, z.2.2.d]
/-- the equations of a theory, valid -/
structure EqsV (ops : Sig) (E : List (Int × Trm × Trm)) : Prop where
  so : (E.map (·.1)).Pairwise (· < ·)
  le : E.length < 60
  at' : ∀ z ∈ E, (0 ≤ z.1 ∧ z.1 ≤ 60) ∧ (Wf ops 10 z.2.1 ∧ z.2.1.depth ≤ 10 ∧ z.2.1.size ≤ 100) ∧ Wf ops 10 z.2.2 ∧ z.2.2.depth ≤ 10 ∧ z.2.2.size ≤ 100
def sp__law_agrees : SpD := fun ds W Q _ => ∃ (t : Thy) (b : Addr) (ops : Sig), ds = [.ptr t.T, .ptr b] ∧ ThyO W t ∧ W b = some (.lst (t.E.map entT)) ∧ Ops ops ∧ EqsV ops t.E ∧ ∀ W', Grow W W' → Q (.bl true) W'
theorem len__law_agrees : ∀ ds W Q E, sp__law_agrees ds W Q E → ds.length = 2 := by
  rintro ds W Q E ⟨_, _, _, rfl, _⟩; rfl
theorem gc__law_agrees {t : Thy} {b : Addr} {ops : Sig} {W : Wd} {Q : DQ} {E : DX} (h1 : ThyO W t) (h2 : W b = some (.lst (t.E.map entT))) (h3 : Ops ops) (h4 : EqsV ops t.E) (k : ∀ W', Grow W W' → Q (.bl true) W') : sp__law_agrees [.ptr t.T, .ptr b] W Q E := ⟨t, b, ops, rfl, h1, h2, h3, h4, k⟩

abbrev n__law_agrees : List Str := ["_law_theory", "_law_book", "_law_numbers", "_law_entry", "_law_actual", "_law_given", "_law_k"]
theorem sd__law_agrees (x0 x1 : D) : startD n__law_agrees [x0, x1] = [some x0, some x1, none, none, none, none, none] := rfl
def e1__law_agrees  : AE := aOp dIx (aVar 3) (aC (.int 0))
def b1__law_agrees  : AS := aSeq (aIfS (aOr (aNot (aTest (aCall (sp__law_same 100) [] ED0 (aCons (aOp dIx (aOp dIx (aVar 5) (aVar 6)) (aC (.int 0))) (aCons (aOp dIx (aOp dIx (aVar 1) (aVar 6)) (aC (.int 1))) (aNil)))))) (aNot (aTest (aCall (sp__law_same 100) [] ED0 (aCons (aOp dIx (aOp dIx (aVar 5) (aVar 6)) (aC (.int 1))) (aCons (aOp dIx (aOp dIx (aVar 1) (aVar 6)) (aC (.int 2))) (aNil))))))) (aRet (aC (.bl false))) (aNext)) (aIfS (aTest (aOp (dNe) (aCB (dReprX) (aCons (aMeth "Theory" "equation" (sp_Theory_equation) [] AW.none (aVar 0) (aCons (aOp dIx (aVar 2) (aVar 6)) (aNil))) (aNil))) (aCB (dReprX) (aCons (aTup (aCons (aOp dIx (aOp dIx (aVar 1) (aVar 6)) (aC (.int 1))) (aCons (aOp dIx (aOp dIx (aVar 1) (aVar 6)) (aC (.int 2))) (aNil)))) (aNil))))) (aRet (aC (.bl false))) (aNext))
def a__law_agrees  : AS := aSeq (aAsg (aLc false (aiSeq (aVar 1)) (agName 3) (aYes) (e1__law_agrees) [3]) (agName 2)) (aSeq (aAsg (aMeth "Theory" "sources" (sp_Theory_sources) [] AW.none (aVar 0) aNil) (agName 4)) (aSeq (aIfS (aOr (aNot (aTest (aCB (dIsi) (aCons (aVar 4) (aCons (aC (.ty "list")) (aNil)))))) (aTest (aOp (dEqL true) (aVar 4) (aVar 2)))) (aRet (aC (.bl false))) (aNext)) (aSeq (aAsg (aMeth "Theory" "given" (sp_Theory_given) [] AW.none (aVar 0) aNil) (agName 5)) (aSeq (aIfS (aOr (aNot (aTest (aCB (dIsi) (aCons (aVar 5) (aCons (aC (.ty "list")) (aNil)))))) (aTest (aOp (dNe) (aCB (dLen) (aCons (aVar 5) (aNil))) (aCB (dLen) (aCons (aVar 1) (aNil)))))) (aRet (aC (.bl false))) (aNext)) (aSeq (aFor (aiRng1 (aCons (aCB (dLen) (aCons (aVar 1) (aNil))) (aNil))) (agName 6) (b1__law_agrees)) (aSeq (aDrop (aBM tyL dAppend (aVar 4) (aCons (aC (.int 99)) (aNil)))) (aSeq (aDrop (aBM tyL dAppend (aVar 5) (aCons (aTup (aCons (aC (.int 0)) (aCons (aC (.int 0)) (aNil)))) (aNil)))) (aRet (aAndV (aOp (dEqL false) (aMeth "Theory" "sources" (sp_Theory_sources) [] AW.none (aVar 0) aNil) (aVar 2)) (aOp (dEq) (aCB (dLen) (aCons (aMeth "Theory" "given" (sp_Theory_given) [] AW.none (aVar 0) aNil) (aNil))) (aCB (dLen) (aCons (aVar 1) (aNil)))))))))))))
theorem rd__law_agrees {ds : List D} {W : Wd} {Q : DQ} {E : DX} (h : sp__law_agrees ds W Q E) : a__law_agrees (EN Q) (startD n__law_agrees ds) W := by
  obtain ⟨t, b, ops, rfl, ht, hb, hO, hv, q⟩ := h
  have hlen := hv.le
  unfold a__law_agrees
  walk_at "rd"
  refine lcG_pure entT (fun y => .int y.1) (fun _ => true) t.E (by rw [sizeLine_val]; omega) (fun L m hL => okOf_lr (lstRd_ptr hb) ((Grow.refl W).set hL)) (fun y hy W' Q' P k1 _ => ?_) ?_
  · unfold entT e1__law_agrees
    walk_at "rd"
    exact k1 rfl
  rw [if_neg (by decide), show t.E.filter (fun _ => true) = t.E from List.filter_eq_self.mpr fun _ _ => rfl]
  walk_at "rd"
  refine ⟨⟨_, objOf_ptr ht.wT, rfl⟩, ?_⟩
  walk_at "rd"
  refine gc_sources ht hv.so hv.le fun s hs => ?_
  have g1 : Grow W (W.set s (.lst ((t.E.map (·.1)).map .int))) := (Grow.refl W).set hs
  have hs1 : (W.set s (.lst ((t.E.map (·.1)).map .int))) s = some (.lst ((t.E.map (·.1)).map .int)) := Wd.set_same ..
  have ht1 := ht.grow g1
  have hb1 := g1 _ _ hb
  generalize W.set s (.lst ((t.E.map (·.1)).map .int)) = W1 at g1 hs1 ht1 hb1 ⊢
  walk_at "rd"
  refine go_isi (tyOf_ptr hs1) (by decide) rfl ?_
  walk_at "rd"
  refine go_neLI (as := t.E.map (·.1)) (bs := t.E.map (·.1)) (lstRd_ptr hs1) (by rw [List.map_map]; rfl) ?_
  rw [decide_eq_true rfl]
  walk_at "rd"
  refine ⟨⟨_, objOf_ptr ht1.wT, rfl⟩, ?_⟩
  walk_at "rd"
  refine gc_given ht1 hv.so hv.le fun g W2 g2 hg2 hg => ?_
  have gW : W g = none := by
    cases e : W g with
    | none => rfl
    | some m => rw [g1 _ _ e] at hg; cases hg
  have g3 : Grow W W2 := g1.trans g2
  have hs2 := g2 _ _ hs1
  have ht2 := ht1.grow g2
  have hb2 := g2 _ _ hb1
  have nsg : s ≠ g := fun e => by rw [← e, hs1] at hg; cases hg
  clear g1 g2 hs1 ht1 hb1
  walk_at "rd"
  refine go_isi (tyOf_ptr hg2) (by decide) rfl ?_
  walk_at "rd"
  rw [List.length_map, List.length_map, decide_eq_true rfl]
  walk_at "rd"
  rw [List.length_map]
  refine ⟨_, rfl, ⟨by omega, by omega⟩, ?_⟩
  rw [Int.toNat_natCast]
  refine forL_inv (items := rangeD 0 t.E.length) (fun ds δ W' => ∃ (i m : Nat) (z6 : Option D), W' = W2 ∧ ds = rangeD (i : Int) m ∧ i + m = t.E.length ∧ δ = [some (.ptr t.T), some (.ptr b), some (.lst (t.E.map fun y => .int y.1)), none, some (.ptr s), some (.ptr g), z6]) ⟨0, t.E.length, none, rfl, rfl, by omega, rfl⟩ (fun _ _ _ _ => trivial) ?_ ?_
  · rintro d' ds δ W' N ⟨i, m, z6, rfl, e, hm, rfl⟩ kk
    cases m with
    | zero => cases e
    | succ m =>
      rw [rangeD_succ] at e
      cases e
      have hi : i < t.E.length := by omega
      obtain ⟨⟨n, l, r⟩, hy⟩ : ∃ y, t.E[i]? = some y := ⟨t.E[i], List.getElem?_eq_getElem hi⟩
      have hm1 : (n, l, r) ∈ t.E := List.mem_of_getElem? hy
      have he := eqOf_mem hv.so hm1
      obtain ⟨⟨n0, n1⟩, ⟨wl, dl, zl⟩, wr, dr, zr⟩ := hv.at' _ hm1
      dsimp only at he n0 n1 wl dl zl wr dr zr
      have a1 : atI (t.E.map fun z => D.tup [z.2.1.d, z.2.2.d]) (i : Int) = some (.tup [l.d, r.d]) := by rw [atI_of (by omega), Int.toNat_natCast, List.getElem?_map, hy]; rfl
      have a2 : atI (t.E.map entT) (i : Int) = some (.tup [.int n, l.d, r.d]) := by rw [atI_of (by omega), Int.toNat_natCast, List.getElem?_map, hy]; rfl
      have a3 : atI (t.E.map fun y => D.int y.1) (i : Int) = some (.int n) := by rw [atI_of (by omega), Int.toNat_natCast, List.getElem?_map, hy]; rfl
      have hrp : Rp (.tup [l.d, r.d]) 12 3000 := (rp_tup (rps_cons (rp_trm (wl.tn hO (by decide))) (rps_cons (rp_trm (wr.tn hO (by decide))) rps_nil))).mono (by omega) (by omega)
      unfold b1__law_agrees
      walk_at "rd"
      refine go_ixP hg2 a1 ?_
      walk_at "rd"
      refine go_ixP hb2 a2 ?_
      walk_at "rd"
      refine gc__law_same (by omega) (by omega) ?_
      rw [decide_eq_true rfl]
      walk_at "rd"
      refine go_ixP hg2 a1 ?_
      walk_at "rd"
      refine go_ixP hb2 a2 ?_
      walk_at "rd"
      refine gc__law_same (by omega) (by omega) ?_
      rw [decide_eq_true rfl]
      walk_at "rd"
      refine ⟨⟨_, objOf_ptr ht2.wT, rfl⟩, ?_⟩
      walk_at "rd"
      refine go_ixL a3 ?_
      walk_at "rd"
      refine gc_equation ht2 (fun z e' => ?_) fun e' => by rw [he] at e'; cases e'
      rw [he] at e'
      cases e'
      walk_at "rd"
      refine go_reprE hrp (by omega) (by omega) ?_
      walk_at "rd"
      refine go_ixP hb2 a2 ?_
      walk_at "rd"
      refine go_ixP hb2 a2 ?_
      walk_at "rd"
      refine go_reprE hrp (by omega) (by omega) ?_
      walk_at "rd"
      exact kk _ _ ⟨i + 1, m, _, rfl, rfl, by omega, rfl⟩
  · rintro δ W' ⟨i, m, z6, rfl, e, hm, rfl⟩
    walk_at "rd"
    have g4 : Grow W (W'.set s (.lst ((t.E.map (·.1)).map .int ++ [.int 99]))) := g3.set hs
    have hg4 : (W'.set s (.lst ((t.E.map (·.1)).map .int ++ [.int 99]))) g = _ := (Wd.set_ne nsg.symm).trans hg2
    generalize W'.set s (.lst ((t.E.map (·.1)).map .int ++ [.int 99])) = W3 at g4 hg4 ⊢
    walk_at "rd"
    obtain ⟨W5, e5, g5⟩ : ∃ W5, W3.set g (.lst ((t.E.map fun z => D.tup [z.2.1.d, z.2.2.d]) ++ [.tup [.int 0, .int 0]])) = W5 ∧ Grow W W5 := ⟨_, rfl, g4.set gW⟩
    rw [e5]
    have ht5 := ht.grow g5
    clear e5 g4 hg4
    refine ⟨⟨_, objOf_ptr ht5.wT, rfl⟩, ?_⟩
    walk_at "rd"
    refine gc_sources ht5 hv.so hv.le fun s2 hs5 => ?_
    have g6 : Grow W (W5.set s2 (.lst ((t.E.map (·.1)).map .int))) := g5.trans ((Grow.refl W5).set hs5)
    have hs6 : (W5.set s2 (.lst ((t.E.map (·.1)).map .int))) s2 = some (.lst ((t.E.map (·.1)).map .int)) := Wd.set_same ..
    generalize W5.set s2 (.lst ((t.E.map (·.1)).map .int)) = W6 at g6 hs6 ⊢
    walk_at "rd"
    refine go_eqLI (as := t.E.map (·.1)) (bs := t.E.map (·.1)) (lstRd_ptr hs6) (by rw [List.map_map]; rfl) ?_
    rw [decide_eq_true rfl]
    have ht6 := ht.grow g6
    walk_at "rd"
    refine ⟨⟨_, objOf_ptr ht6.wT, rfl⟩, ?_⟩
    walk_at "rd"
    refine gc_given ht6 hv.so hv.le fun g' W7 g7 hg7 _ => ?_
    have hb7 := (g6.trans g7) _ _ hb
    walk_at "rd"
    rw [List.length_map, List.length_map, decide_eq_true rfl]
    exact q _ (g6.trans g7)

theorem sc__law_agrees : FnScope ["_law_theory", "_law_book", "_law_numbers", "_law_entry", "_law_actual", "_law_given", "_law_k"] ["_law_theory", "_law_book"] (defScope s__law_agrees) := ⟨rfl, rfl, rfl, by decide +kernel, rfl, by decide +kernel, by decide +kernel⟩
theorem ok__law_agrees {P : Program} {w : World} {K : PySem.W.Frag} {mg : Str → Option Value} {base : Heap} {k : Nat}  (F : Df K mg "_law_agrees" "_law_agrees" s__law_agrees) (b_Theory_sources : FkM P w K mg base CX0 k (He.ma K (He.ga K "Theory") "sources") ["self"] (sp_Theory_sources)) (m_Theory_sources : Meth K (He.ga K "Theory") "sources" (He.ma K (He.ga K "Theory") "sources")) (k_Theory : Cls K (He.ga K "Theory")) (z_isinstance : mg "isinstance" = none) (z_list : mg "list" = none) (b_Theory_given : FkM P w K mg base CX0 k (He.ma K (He.ga K "Theory") "given") ["self"] (sp_Theory_given)) (m_Theory_given : Meth K (He.ga K "Theory") "given" (He.ma K (He.ga K "Theory") "given")) (z_len : mg "len" = none) (z_range : mg "range" = none) (g__law_same : Fk P w K mg base CX0 k "_law_same" ["_law_first", "_law_second"] (sp__law_same 100)) (z_repr : mg "repr" = none) (b_Theory_equation : FkM P w K mg base (L2.CX P w) k (He.ma K (He.ga K "Theory") "equation") ["self", "number"] (sp_Theory_equation)) (m_Theory_equation : Meth K (He.ga K "Theory") "equation" (He.ma K (He.ga K "Theory") "equation")) (hmod : ModK K) : Fk P w K mg base CX0 (k + 1) "_law_agrees" ["_law_theory", "_law_book"] (sp__law_agrees) := by
  have sc := sc__law_agrees
  exact okF F sc (fun _ _ _ _ _ _ us hl => match us, hl with | [_, _], _ => rfl) len__law_agrees fun cdv A outer s H E G f hr hgd => ⟨_, a__law_agrees ,
    dss_cons (ds_setLc false (i := 2) rfl sc.nd rfl rfl (sw_true rfl rfl rfl (by decide +kernel)) (di_seq (dv 1)) (blkOk_by (own := [("_law_entry", 3)]) (by kernel_rfl)) (dc_of (fun _ _ _ _ _ => dg_name (i := 3) sc.nd rfl (.inl rfl)) (fun _ _ _ _ _ => dts_nil) (fun _ _ _ _ _ => de_ix (ixK K (ix_all (hu_of hr))) sr_ix (dv 3) (de_int))) wipe_name) (dss_cons (ds_set (i := 4) sc.nd rfl (.inl rfl) (de_meth0K K (E := fun _ => E0) (fun _ => passA0) liftS_none k_Theory m_Theory_sources b_Theory_sources hr hgd (dv 0))) (dss_cons (ds_if (DW.dt (dw_or (dt_not (dt_val (de_callB call_isi sc_isi (by rfl) z_isinstance (by decide +kernel) (da_cons (dv 4) (da_cons (de_bty (by rfl) z_list (by decide +kernel)) (da_nil)))))) (dw_or1 (dt_cmp (op_neP (hu151 hr)) sr_eqL (dv 4) (dv 2) (nomark _))))) (dss_one (ds_ret (de_bl))) (dss_nil)) (dss_cons (ds_set (i := 5) sc.nd rfl (.inl rfl) (de_meth0K K (E := fun _ => E0) (fun _ => passA0) liftS_none k_Theory m_Theory_given b_Theory_given hr hgd (dv 0))) (dss_cons (ds_if (DW.dt (dw_or (dt_not (dt_val (de_callB call_isi sc_isi (by rfl) z_isinstance (by decide +kernel) (da_cons (dv 5) (da_cons (de_bty (by rfl) z_list (by decide +kernel)) (da_nil)))))) (dw_or1 (dt_cmp (op_neP (hu151 hr)) sr_ne (de_callB call_lenA sc_len (by rfl) z_len (by decide +kernel) (da_cons (dv 5) (da_nil))) (de_callB call_lenA sc_len (by rfl) z_len (by decide +kernel) (da_cons (dv 1) (da_nil))) (nomark _))))) (dss_one (ds_ret (de_bl))) (dss_nil)) (dss_cons (ds_for PassesOwn.never rfl (di_range1 (by rfl) z_range (da_cons (de_callB call_lenA sc_len (by rfl) z_len (by decide +kernel) (da_cons (dv 1) (da_nil))) (da_nil))) (dg_name (i := 6) sc.nd rfl (.inl rfl)) (dss_cons (ds_if (DW.dt (dw_or (dt_not (dt_val (de_fn g__law_same hr hgd (da_cons (de_ix (ix_all (hu_of hr)) sr_ix (de_ix (ix_all (hu_of hr)) sr_ix (dv 5) (dv 6)) (de_int)) (da_cons (de_ix (ix_all (hu_of hr)) sr_ix (de_ix (ix_all (hu_of hr)) sr_ix (dv 1) (dv 6)) (de_int)) (da_nil)))))) (dw_or1 (dt_not (dt_val (de_fn g__law_same hr hgd (da_cons (de_ix (ix_all (hu_of hr)) sr_ix (de_ix (ix_all (hu_of hr)) sr_ix (dv 5) (dv 6)) (de_int)) (da_cons (de_ix (ix_all (hu_of hr)) sr_ix (de_ix (ix_all (hu_of hr)) sr_ix (dv 1) (dv 6)) (de_int)) (da_nil))))))))) (dss_one (ds_ret (de_bl))) (dss_nil)) (dss_one (ds_if (dt_cmp (op_neP (hu151 hr)) sr_ne (de_callB (call_reprX hgd (hu152 hr)) (sc_reprX hmod) (by rfl) z_repr (by decide +kernel) (da_cons (de_methK K (E := fun _ => E0) passNo liftS_none k_Theory m_Theory_equation b_Theory_equation hr hgd (dv 0) (da_cons (de_ix (ix_all (hu_of hr)) sr_ix (dv 2) (dv 6)) (da_nil))) (da_nil))) (de_callB (call_reprX hgd (hu152 hr)) (sc_reprX hmod) (by rfl) z_repr (by decide +kernel) (da_cons (de_tup (da_cons (de_ix (ix_all (hu_of hr)) sr_ix (de_ix (ix_all (hu_of hr)) sr_ix (dv 1) (dv 6)) (de_int)) (da_cons (de_ix (ix_all (hu_of hr)) sr_ix (de_ix (ix_all (hu_of hr)) sr_ix (dv 1) (dv 6)) (de_int)) (da_nil)))) (da_nil))) (nomark _)) (dss_one (ds_ret (de_bl))) (dss_nil))))) (dss_cons (ds_expr (de_append (dv 4) (da_cons (de_int) (da_nil)))) (dss_cons (ds_expr (de_append (dv 5) (da_cons (de_tup (da_cons (de_int) (da_cons (de_int) (da_nil)))) (da_nil)))) (dss_one (ds_ret (de_and (de_cmp (op_eqP (hu151 hr)) sr_eqL (de_meth0K K (E := fun _ => E0) (fun _ => passA0) liftS_none k_Theory m_Theory_sources b_Theory_sources hr hgd (dv 0)) (dv 2) (nomark _)) (de_one (de_cmp (op_eqP (hu151 hr)) sr_eq (de_callB call_lenA sc_len (by rfl) z_len (by decide +kernel) (da_cons (de_meth0K K (E := fun _ => E0) (fun _ => passA0) liftS_none k_Theory m_Theory_given b_Theory_given hr hgd (dv 0)) (da_nil))) (de_callB call_lenA sc_len (by rfl) z_len (by decide +kernel) (da_cons (dv 1) (da_nil))) (nomark _))))))))))))),
    fun ds W QD ED h => rd__law_agrees h⟩
def eqKind (ops : Sig) (l r : Trm) (d : D) : Prop := (∃ z, (l.bad ops).or (r.bad ops) = some (true, z) ∧ d = .tup [.str "unknown", .str z]) ∨ (l.bad ops = none ∧ r.bad ops = none ∧ (∃ v ∈ l.vars ++ r.vars, 9 < v) ∧ d = .tup [.str "large", .int 0]) ∨ (l.bad ops = none ∧ r.bad ops = none ∧ (∀ v ∈ l.vars ++ r.vars, v ≤ 9) ∧ (Wf ops 10 l ∧ Wf ops 10 r) ∧ d = .non)
theorem bads_no {ops : Sig} : ∀ {ts : List Trm}, (∀ t ∈ ts, t.bad ops = none) → Trm.bads ops ts = none
  | [], _ => by rw [Trm.bads]
  | t :: ts, h => by
    rw [Trm.bads, h t List.mem_cons_self]
    exact bads_no fun u hu => h u (List.mem_cons_of_mem _ hu)
theorem Wf.nobad {ops : Sig} {n : Int} {t : Trm} (h : Wf ops n t) : t.bad ops = none := by
  induction h with
  | var _ _ => rw [Trm.bad]
  | app h0 h1 ih =>
    rw [Trm.bad, badAt_yes (List.mem_map_of_mem (f := Prod.fst) h0) h0]
    exact bads_no ih
theorem bad_odd {ops : Sig} {f x : Str} (h : (f, 1) ∈ ops) (hx : x ∉ ops.map Prod.fst) : (Trm.app f [.app x []]).bad ops = some (true, x) := by
  rw [Trm.bad, badAt_yes (ts := [.app x []]) (List.mem_map_of_mem (f := Prod.fst) h) h]
  simp [Trm.bads, Trm.bad, badAt, hx]
theorem bad_arg {ops : Sig} {f : Str} {t : Trm} (h : (f, 1) ∈ ops) (ht : t.bad ops = none) : (Trm.app f [t]).bad ops = none := by
  rw [Trm.bad, badAt_yes (ts := [t]) (List.mem_map_of_mem (f := Prod.fst) h) h]
  exact bads_no fun u hu => by rw [List.mem_singleton.mp hu]; exact ht
theorem Ops.at0 {ops : Sig} (h : Ops ops) : ∃ f, ops[0]? = some (f, 0) ∧ (f, 0) ∈ ops := by
  obtain ⟨hl, e⟩ := h.low 0 (by decide)
  refine ⟨ops[0].1, ?_, ?_⟩
  · rw [List.getElem?_eq_getElem hl]
    exact congrArg some (Prod.ext rfl e)
  · have := List.getElem_mem hl
    rw [show ops[0] = (ops[0].1, 0) from Prod.ext rfl e] at this
    exact this
theorem Ops.at2 {ops : Sig} (h : Ops ops) : ∃ f, ops[2]? = some (f, 1) ∧ (f, 1) ∈ ops := by
  obtain ⟨hl, e⟩ := h.low 2 (by decide)
  refine ⟨ops[2].1, ?_, ?_⟩
  · rw [List.getElem?_eq_getElem hl]
    exact congrArg some (Prod.ext rfl e)
  · have := List.getElem_mem hl
    rw [show ops[2] = (ops[2].1, 1) from Prod.ext rfl e] at this
    exact this
def sp__law_equation : SpD := fun ds W Q _ => ∃ st o ops, ds = [.ptr st, .lst (ops.map opD)] ∧ W st = some o ∧ StO o ∧ Ops ops ∧ (∃ n : Nat, ∀ x ∈ ops, x.1.length = n) ∧ ∀ l r d o', eqKind ops l r d → (l.depth ≤ 10 ∧ l.size ≤ 100) → (r.depth ≤ 10 ∧ r.size ≤ 100) → StO o' → Q (.tup [l.d, r.d, d]) (W.set st o')
theorem len__law_equation : ∀ ds W Q E, sp__law_equation ds W Q E → ds.length = 2 := by
  rintro ds W Q E ⟨_, _, _, rfl, _⟩; rfl
theorem gc__law_equation {st : Addr} {o : MO} {ops : Sig} {W : Wd} {Q : DQ} {E : DX} (hw : W st = some o) (ho : StO o) (hO : Ops ops) (hN : ∃ n : Nat, ∀ x ∈ ops, x.1.length = n) (k : ∀ l r d o', eqKind ops l r d → (l.depth ≤ 10 ∧ l.size ≤ 100) → (r.depth ≤ 10 ∧ r.size ≤ 100) → StO o' → Q (.tup [l.d, r.d, d]) (W.set st o')) : sp__law_equation [.ptr st, .lst (ops.map opD)] W Q E := ⟨st, o, ops, rfl, hw, ho, hO, hN, k⟩

abbrev n__law_equation : List Str := ["_law_state_here", "_law_operations_here", "_law_left", "_law_right", "_law_kind", "_law_strange"]
theorem sd__law_equation (x0 x1 : D) : startD n__law_equation [x0, x1] = [some x0, some x1, none, none, none, none] := rfl
def r1__law_equation  : AS := aSeq (aIfS (aTest (aOp (dEq) (aVar 4) (aC (.int 0)))) (aRet (aTup (aCons (aTup (aCons (aOp dIx (aOp dIx (aVar 1) (aC (.int 2))) (aC (.int 0))) (aCons (aTup (aCons (aVar 5) (aNil))) (aNil)))) (aCons (aVar 3) (aCons (aTup (aCons (aC (.str "unknown")) (aCons (aVar 5) (aNil)))) (aNil)))))) (aNext)) (aSeq (aIfS (aTest (aOp (dEq) (aVar 4) (aC (.int 1)))) (aRet (aTup (aCons (aVar 2) (aCons (aTup (aCons (aOp dIx (aOp dIx (aVar 1) (aC (.int 2))) (aC (.int 0))) (aCons (aTup (aCons (aVar 5) (aNil))) (aNil)))) (aCons (aTup (aCons (aC (.str "unknown")) (aCons (aVar 5) (aNil)))) (aNil)))))) (aNext)) (aSeq (aIfS (aTest (aOp (dEq) (aVar 4) (aC (.int 2)))) (aRet (aTup (aCons (aVar 2) (aCons (aTup (aCons (aOp dIx (aOp dIx (aVar 1) (aC (.int 2))) (aC (.int 0))) (aCons (aOp (dAdd false) (aC (.int 10)) (aCall (sp__law_draw) [] ED0 (aCons (aVar 0) (aCons (aC (.int 10)) (aNil))))) (aNil)))) (aCons (aTup (aCons (aC (.str "large")) (aCons (aC (.int 0)) (aNil)))) (aNil)))))) (aNext)) (aRet (aTup (aCons (aVar 2) (aCons (aVar 3) (aCons (aC .non) (aNil))))))))
def a__law_equation  : AS := aSeq (aAsg (aCall (sp__law_term 4) [] ED0 (aCons (aVar 0) (aCons (aVar 1) (aCons (aC (.int 10)) (aCons (aC (.int 2)) (aNil)))))) (agName 2)) (aSeq (aAsg (aCall (sp__law_term 4) [] ED0 (aCons (aVar 0) (aCons (aVar 1) (aCons (aC (.int 10)) (aCons (aC (.int 2)) (aNil)))))) (agName 3)) (aSeq (aAsg (aCall (sp__law_draw) [] ED0 (aCons (aVar 0) (aCons (aC (.int 8)) (aNil)))) (agName 4)) (aSeq (aAsg (aOp (dAdd false) (aC (.str "z")) (aOp dIx (aOp dIx (aVar 1) (aC (.int 0))) (aC (.int 0)))) (agName 5)) (r1__law_equation))))
theorem rd__law_equation {ds : List D} {W : Wd} {Q : DQ} {E : DX} (h : sp__law_equation ds W Q E) : a__law_equation (EN Q) (startD n__law_equation ds) W := by
  obtain ⟨st, o, ops, rfl, hw, ho, hO, hN, q⟩ := h
  unfold a__law_equation
  walk_at "rd"
  refine gc_term hw ho hO (by decide) (by decide) (by decide) fun l o1 hl dl zl ho1 => ?_
  have dl : l.depth ≤ 3 := dl
  have zl : l.size ≤ 13 := zl
  walk_at "rd"
  refine gc_term (Wd.set_same ..) ho1 hO (by decide) (by decide) (by decide) fun r o2 hr dr zr ho2 => ?_
  have dr : r.depth ≤ 3 := dr
  have zr : r.size ≤ 13 := zr
  rw [Wd.set_set]
  obtain ⟨f, a0, m0⟩ := hO.at0
  obtain ⟨g, a2, m2⟩ := hO.at2
  have lf : f.length ≤ 7 := (hO.2.2.2 _ m0).2.2
  have lz : ("z" : Str).length = 1 := rfl
  have hz : ("z" ++ f : Str) ∉ ops.map Prod.fst := fun h => by
    obtain ⟨n, hn⟩ := hN
    obtain ⟨x, hx, e⟩ := List.mem_map.mp h
    have e1 := hn _ hx
    have e2 := hn _ m0
    rw [e, app_len, lz] at e1
    simp only at e2
    omega
  have i0 : atI (ops.map opD) 0 = some (.tup [.str f, .int 0]) := by
    rw [atI_of (by decide), List.getElem?_map]
    show (ops[0]?).map opD = _
    rw [a0]; rfl
  have i2 : atI (ops.map opD) 2 = some (.tup [.str g, .int 1]) := by
    rw [atI_of (by decide), List.getElem?_map]
    show (ops[2]?).map opD = _
    rw [a2]; rfl
  have l2 : l.depth ≤ 10 ∧ l.size ≤ 100 := ⟨by omega, by omega⟩
  have r2 : r.depth ≤ 10 ∧ r.size ≤ 100 := ⟨by omega, by omega⟩
  have od : ∀ x, (Trm.app g [.app x []]).depth ≤ 10 ∧ (Trm.app g [.app x []]).size ≤ 100 := fun x => by simp [Trm.depth, Trm.depths, Trm.size, Trm.sizes]
  walk_at "rd"
  rename_i n o3 hn0 hn1 ho3
  refine go_ixL i0 ?_
  walk_at "rd"
  refine go_addS (by rw [lz, sizeLine_val]; omega) ?_
  walk_at "rd"
  unfold r1__law_equation
  walk_at "rs"
  · refine go_ixL i2 ?_
    walk_at "rd"
    exact q (.app g [.app ("z" ++ f) []]) r _ o3 (.inl ⟨"z" ++ f, by rw [bad_odd m2 hz]; rfl, rfl⟩) (od _) r2 ho3
  · refine go_ixL i2 ?_
    walk_at "rd"
    exact q l (.app g [.app ("z" ++ f) []]) _ o3 (.inl ⟨"z" ++ f, by rw [hl.nobad, bad_odd m2 hz]; rfl, rfl⟩) l2 (od _) ho3
  · refine go_ixL i2 ?_
    walk_at "rd"
    rename_i v o4 hv0 hv1 ho4
    refine q l (.app g [.var (10 + v)]) _ o4 (.inr (.inl ⟨hl.nobad, bad_arg m2 (by rw [Trm.bad]), ⟨10 + v, List.mem_append_right _ (mem_vars.mpr ?_), by omega⟩, rfl⟩)) l2 (by simp [Trm.depth, Trm.depths, Trm.size, Trm.sizes]) ho4
    simp [occ, Trm.syms, Trm.symss, Sy.int?]
  · refine q l r _ o3 (.inr (.inr ⟨hl.nobad, hr.nobad, fun v hv => ?_, ⟨hl, hr⟩, rfl⟩)) l2 r2 ho3
    rcases List.mem_append.mp hv with h | h
    · have := (occ_wf2 hl v (mem_vars.mp h)).2; omega
    · have := (occ_wf2 hr v (mem_vars.mp h)).2; omega

theorem sc__law_equation : FnScope ["_law_state_here", "_law_operations_here", "_law_left", "_law_right", "_law_kind", "_law_strange"] ["_law_state_here", "_law_operations_here"] (defScope s__law_equation) := ⟨rfl, rfl, rfl, by decide +kernel, rfl, by decide +kernel, by decide +kernel⟩
theorem ok__law_equation {P : Program} {w : World} {K : PySem.W.Frag} {mg : Str → Option Value} {base : Heap} {k : Nat}  (F : Df K mg "_law_equation" "_law_equation" s__law_equation) (g__law_term : Fk P w K mg base CX0 k "_law_term" ["_law_state_here", "_law_operations_here", "_law_count", "_law_height"] (sp__law_term 4)) (g__law_draw : Fk P w K mg base CX0 k "_law_draw" ["_law_state_here", "_law_many"] (sp__law_draw)) : Fk P w K mg base CX0 (k + 1) "_law_equation" ["_law_state_here", "_law_operations_here"] (sp__law_equation) := by
  have sc := sc__law_equation
  exact okF F sc (fun _ _ _ _ _ _ us hl => match us, hl with | [_, _], _ => rfl) len__law_equation fun cdv A outer s H E G f hr hgd => ⟨_, a__law_equation ,
    dss_cons (ds_set (i := 2) sc.nd rfl (.inl rfl) (de_fn g__law_term hr hgd (da_cons (dv 0) (da_cons (dv 1) (da_cons (de_int) (da_cons (de_int) (da_nil))))))) (dss_cons (ds_set (i := 3) sc.nd rfl (.inl rfl) (de_fn g__law_term hr hgd (da_cons (dv 0) (da_cons (dv 1) (da_cons (de_int) (da_cons (de_int) (da_nil))))))) (dss_cons (ds_set (i := 4) sc.nd rfl (.inl rfl) (de_fn g__law_draw hr hgd (da_cons (dv 0) (da_cons (de_int) (da_nil))))) (dss_cons (ds_set (i := 5) sc.nd rfl (.inl rfl) (de_op (op_addA) sr_add (de_str) (de_ix (ix_all (hu_of hr)) sr_ix (de_ix (ix_all (hu_of hr)) sr_ix (dv 1) (de_int)) (de_int)))) (dss_cons (ds_if (dt_cmp (op_eqP (hu151 hr)) sr_eq (dv 4) (de_int) (nomark _)) (dss_one (ds_ret (de_tup (da_cons (de_tup (da_cons (de_ix (ix_all (hu_of hr)) sr_ix (de_ix (ix_all (hu_of hr)) sr_ix (dv 1) (de_int)) (de_int)) (da_cons (de_tup (da_cons (dv 5) (da_nil))) (da_nil)))) (da_cons (dv 3) (da_cons (de_tup (da_cons (de_str) (da_cons (dv 5) (da_nil)))) (da_nil))))))) (dss_nil)) (dss_cons (ds_if (dt_cmp (op_eqP (hu151 hr)) sr_eq (dv 4) (de_int) (nomark _)) (dss_one (ds_ret (de_tup (da_cons (dv 2) (da_cons (de_tup (da_cons (de_ix (ix_all (hu_of hr)) sr_ix (de_ix (ix_all (hu_of hr)) sr_ix (dv 1) (de_int)) (de_int)) (da_cons (de_tup (da_cons (dv 5) (da_nil))) (da_nil)))) (da_cons (de_tup (da_cons (de_str) (da_cons (dv 5) (da_nil)))) (da_nil))))))) (dss_nil)) (dss_cons (ds_if (dt_cmp (op_eqP (hu151 hr)) sr_eq (dv 4) (de_int) (nomark _)) (dss_one (ds_ret (de_tup (da_cons (dv 2) (da_cons (de_tup (da_cons (de_ix (ix_all (hu_of hr)) sr_ix (de_ix (ix_all (hu_of hr)) sr_ix (dv 1) (de_int)) (de_int)) (da_cons (de_op (op_addA) sr_add (de_int) (de_fn g__law_draw hr hgd (da_cons (dv 0) (da_cons (de_int) (da_nil))))) (da_nil)))) (da_cons (de_tup (da_cons (de_str) (da_cons (de_int) (da_nil)))) (da_nil))))))) (dss_nil)) (dss_one (ds_ret (de_tup (da_cons (dv 2) (da_cons (dv 3) (da_cons (de_non) (da_nil))))))))))))),
    fun ds W QD ED h => rd__law_equation h⟩
theorem len_law : ∀ ds W Q E, spLawD ds W Q E → ds.length = 1 := by
  rintro ds W Q E ⟨t, rfl, _⟩; rfl
theorem go_neBB {a b : Bool} {W : Wd} {Q : DQ} (h : Q (.bl (!decide (a = b))) W) : dNe (.bl a) (.bl b) W Q := by
  refine ⟨?_, by rw [eqv_bb]; exact h⟩
  unfold D.near
  simp [D.py, PyData.depth, D.plain]
theorem due_one {n : Int} : ∀ {E : List (Int × Trm × Trm)}, (E.map (·.1)).Pairwise (· < ·) → (E.filter fun y => decide (y.1 = n)) = match eqOf E n with | some z => [(n, z.1, z.2)] | none => []
  | [], _ => rfl
  | y :: E, h => by
    rw [List.map_cons, List.pairwise_cons] at h
    rw [List.filter_cons]
    unfold eqOf
    rw [List.find?_cons]
    by_cases e : y.1 = n
    · rw [decide_eq_true e, if_pos rfl]
      have : (E.filter fun y => decide (y.1 = n)) = [] := List.filter_eq_nil_iff.mpr fun x hx he => by
        have := h.1 x.1 (List.mem_map_of_mem (f := (·.1)) hx)
        have := of_decide_eq_true he
        omega
      rw [this, ← e]
      rfl
    · rw [decide_eq_false e, if_neg (by decide)]
      exact due_one h.2
theorem less_none {E : List (Int × Trm × Trm)} {n : Int} : eqOf (E.filter fun z => decide (z.1 ≠ n)) n = none := by
  unfold eqOf
  rw [Option.map_eq_none_iff, List.find?_eq_none]
  intro z hz e
  have := of_decide_eq_true (List.mem_filter.mp hz).2
  exact this (of_decide_eq_true e)
theorem less_same {t : Thy} {n : Int} (h : eqOf t.E n = none) : t.less n = t := by
  unfold Thy.less
  have : (t.E.filter fun z => decide (z.1 ≠ n)) = t.E := List.filter_eq_self.mpr fun z hz => by
    unfold eqOf at h
    rw [Option.map_eq_none_iff, List.find?_eq_none] at h
    have := h z hz
    rw [decide_eq_true_eq]
    exact fun e => this (decide_eq_true e)
  rw [this]
theorem sg0_mem : ∀ {ops : Sig} {x : Str × Int × Bool}, x ∈ sg0 ops → ∃ y ∈ ops, x = (y.1, (y.2 : Int), false)
  | y :: ys, x, h => by
    have e : sg0 (y :: ys) = (y.1, (y.2 : Int), false) :: sg0 ys := rfl
    rw [e] at h
    rcases List.mem_cons.mp h with rfl | h
    · exact ⟨y, List.mem_cons_self, rfl⟩
    · obtain ⟨z, hz, e⟩ := sg0_mem h
      exact ⟨z, List.mem_cons_of_mem _ hz, e⟩
theorem Ops.sgV {ops : Sig} (h : Ops ops) : SgV (sg0 ops) := by
  refine ⟨by rw [sg0_names]; exact h.2.2.1, ?_, fun x hx => ?_⟩
  · have := h.len.2
    have : (sg0 ops).length = ops.length := mkS_len (fl0_len ops)
    omega
  · obtain ⟨y, hy, rfl⟩ := sg0_mem hx
    have := h.le3 hy
    exact ⟨(h.2.2.2 y hy).isName, ⟨by simp only; omega, by simp only; omega⟩, fun e => by cases e⟩
/-- cells that are all different and all in use -/
def LiveL (W : Wd) (xs : List Addr) : Prop := xs.Nodup ∧ ∀ z ∈ xs, W z ≠ none
theorem LiveL.grow {W W' : Wd} {xs : List Addr} (h : LiveL W xs) (g : Grow W W') : LiveL W' xs := ⟨h.1, fun z hz e => by
  cases e' : W z with
  | none => exact h.2 z hz e'
  | some m => rw [g _ _ e'] at e; cases e⟩
theorem LiveL.keep {W W' : Wd} {xs : List Addr} (h : LiveL W xs) (k : ∀ z ∈ xs, W' z = W z) : LiveL W' xs := ⟨h.1, fun z hz => by rw [k z hz]; exact h.2 z hz⟩
theorem LiveL.new {W : Wd} {xs : List Addr} {p : Addr} {m : MO} (h : LiveL W xs) (hp : W p = none) : LiveL (W.set p m) (p :: xs) := ⟨List.nodup_cons.mpr ⟨fun hx => h.2 p hx hp, h.1⟩, fun z hz => by
  rcases List.mem_cons.mp hz with rfl | hz
  · rw [Wd.set_same]; exact fun e => by cases e
  · exact (h.grow ((Grow.refl W).set hp)).2 z hz⟩
theorem LiveL.app {W W' : Wd} {xs ys : List Addr} (h : LiveL W xs) (g : Grow W W') (nd : ys.Nodup) (hy : ∀ z ∈ ys, W z = none ∧ W' z ≠ none) : LiveL W' (ys ++ xs) := by
  refine ⟨List.nodup_append.mpr ⟨nd, h.1, fun a ha b hb e => ?_⟩, fun z hz => ?_⟩
  · exact h.2 b hb (by rw [← e]; exact (hy a ha).1)
  · rcases List.mem_append.mp hz with hz | hz
    · exact (hy z hz).2
    · exact (h.grow g).2 z hz
theorem ThyO.live {W : Wd} {t : Thy} (h : ThyO W t) : ∀ z ∈ t.cells, W z ≠ none := fun z hz => by
  unfold Thy.cells at hz
  simp only [List.mem_cons, List.not_mem_nil, or_false] at hz
  rcases hz with rfl | rfl | rfl | rfl | rfl | rfl | rfl
  · rw [h.wT]; exact fun e => by cases e
  · rw [h.sg.wp]; exact fun e => by cases e
  · rw [h.sg.wa]; exact fun e => by cases e
  · rw [h.sg.wb]; exact fun e => by cases e
  · rw [h.sg.wc]; exact fun e => by cases e
  · rw [h.we]; exact fun e => by cases e
  · rw [h.wk]; exact fun e => by cases e
/-- a theory and the book that tells what it was given -/
structure Tk where
  t : Thy
  l : Addr
def Tk.cells (k : Tk) : List Addr := k.l :: k.t.cells
structure TkV (ops : Sig) (W : Wd) (k : Tk) : Prop where
  th : ThyO W k.t
  wl : W k.l = some (.lst (k.t.E.map entT))
  sg : k.t.S = sg0 ops
  so : (k.t.E.map (·.1)).Pairwise (· < ·)
  at' : ∀ z ∈ k.t.E, (0 ≤ z.1 ∧ z.1 < k.t.n) ∧ (Wf ops 10 z.2.1 ∧ z.2.1.depth ≤ 10 ∧ z.2.1.size ≤ 100) ∧ Wf ops 10 z.2.2 ∧ z.2.2.depth ≤ 10 ∧ z.2.2.size ≤ 100
  n0 : 0 ≤ k.t.n
  le : (k.t.E.length : Int) ≤ k.t.n
theorem TkV.eqs {ops : Sig} {W : Wd} {k : Tk} (h : TkV ops W k) (hn : k.t.n < 60) : EqsV ops k.t.E := ⟨h.so, by have := h.le; omega, fun z hz => by
  obtain ⟨⟨a, b⟩, c⟩ := h.at' z hz
  exact ⟨⟨a, by omega⟩, c⟩⟩
theorem TkV.live {ops : Sig} {W : Wd} {k : Tk} (h : TkV ops W k) : ∀ z ∈ k.cells, W z ≠ none := fun z hz => by
  rcases List.mem_cons.mp hz with rfl | hz
  · rw [h.wl]; exact fun e => by cases e
  · exact h.th.live z hz
theorem TkV.keep {ops : Sig} {W W' : Wd} {k : Tk} (h : TkV ops W k) (q : ∀ z ∈ k.cells, W' z = W z) : TkV ops W' k := { h with
  th := h.th.keep fun z hz => q z (List.mem_cons_of_mem _ hz)
  wl := by rw [q _ List.mem_cons_self]; exact h.wl }
structure Tks (ops : Sig) (W : Wd) (st B C : Addr) (o : MO) (ks : List Tk) : Prop where
  hst : W st = some o
  hB : W B = some (.lst (ks.map fun k => .ptr k.l))
  hC : W C = some (.lst (ks.map fun k => .int k.t.n))
  at' : ∀ k ∈ ks, TkV ops W k
  nd : (st :: B :: C :: ks.flatMap Tk.cells).Nodup
theorem flat_dis {α β : Type} {f : α → List β} : ∀ {xs : List α}, (xs.flatMap f).Nodup → ∀ {i j : Nat} {a b : α}, i ≠ j → xs[i]? = some a → xs[j]? = some b → ∀ {z : β}, z ∈ f a → z ∉ f b
  | [], _, i, j, a, b, _, h, _, _, _ => by simp at h
  | x :: xs, nd, i, j, a, b, ne, ha, hb, z, hz => by
    rw [List.flatMap_cons, List.nodup_append] at nd
    cases i with
    | zero =>
      cases j with
      | zero => exact absurd rfl ne
      | succ j =>
        simp only [List.getElem?_cons_zero, Option.some.injEq, List.getElem?_cons_succ] at ha hb
        subst ha
        exact fun h => nd.2.2 z hz z (List.mem_flatMap.mpr ⟨b, List.mem_of_getElem? hb, h⟩) rfl
    | succ i =>
      cases j with
      | zero =>
        simp only [List.getElem?_cons_zero, Option.some.injEq, List.getElem?_cons_succ] at ha hb
        subst hb
        exact fun h => nd.2.2 z h z (List.mem_flatMap.mpr ⟨a, List.mem_of_getElem? ha, hz⟩) rfl
      | succ j =>
        simp only [List.getElem?_cons_succ] at ha hb
        exact flat_dis nd.2.1 (fun e => ne (by rw [e])) ha hb hz
theorem flat_nd {α β : Type} {f : α → List β} {xs : List α} (nd : (xs.flatMap f).Nodup) {a : α} (h : a ∈ xs) : (f a).Nodup := by
  induction xs with
  | nil => cases h
  | cons x xs ih =>
    rw [List.flatMap_cons, List.nodup_append] at nd
    rcases List.mem_cons.mp h with rfl | h
    · exact nd.1
    · exact ih nd.2.1 h
theorem Tks.live {ops : Sig} {W : Wd} {st B C : Addr} {o : MO} {ks : List Tk} (h : Tks ops W st B C o ks) : LiveL W (st :: B :: C :: ks.flatMap Tk.cells) := ⟨h.nd, fun z hz => by
  rcases List.mem_cons.mp hz with rfl | hz
  · rw [h.hst]; exact fun e => by cases e
  rcases List.mem_cons.mp hz with rfl | hz
  · rw [h.hB]; exact fun e => by cases e
  rcases List.mem_cons.mp hz with rfl | hz
  · rw [h.hC]; exact fun e => by cases e
  obtain ⟨k, hk, hz⟩ := List.mem_flatMap.mp hz
  exact (h.at' k hk).live z hz⟩
/-- the cells of one pair: none is another's -/
structure TkN (st B C : Addr) (ks : List Tk) (k : Tk) : Prop where
  nd : k.cells.Nodup
  ns : ∀ z ∈ k.cells, z ≠ st ∧ z ≠ B ∧ z ≠ C
  dg : st ≠ B ∧ st ≠ C ∧ B ≠ C
theorem Tks.tk {ops : Sig} {W : Wd} {st B C : Addr} {o : MO} {ks : List Tk} (h : Tks ops W st B C o ks) {k : Tk} (hk : k ∈ ks) : TkN st B C ks k := by
  have nd := h.nd
  simp only [List.nodup_cons, List.mem_cons, not_or] at nd
  obtain ⟨⟨a1, a2, a3⟩, ⟨b1, b2⟩, c1, n2⟩ := nd
  have hm : ∀ z ∈ k.cells, z ∈ ks.flatMap Tk.cells := fun z hz => List.mem_flatMap.mpr ⟨k, hk, hz⟩
  exact ⟨flat_nd n2 hk, fun z hz => ⟨fun e => a3 (by rw [← e]; exact hm z hz), fun e => b2 (by rw [← e]; exact hm z hz), fun e => c1 (by rw [← e]; exact hm z hz)⟩, a1, a2, b1⟩
theorem Tks.setSt {ops : Sig} {W : Wd} {st B C : Addr} {o : MO} {ks : List Tk} (h : Tks ops W st B C o ks) (o' : MO) : Tks ops (W.set st o') st B C o' ks := by
  have nd := h.nd
  simp only [List.nodup_cons, List.mem_cons, not_or] at nd
  obtain ⟨⟨a1, a2, a3⟩, _⟩ := nd
  exact ⟨Wd.set_same .., by rw [Wd.set_ne (Ne.symm a1)]; exact h.hB, by rw [Wd.set_ne (Ne.symm a2)]; exact h.hC, fun k hk => (h.at' k hk).keep fun z hz => Wd.set_ne ((h.tk hk).ns z hz).1, h.nd⟩
theorem Tks.grow {ops : Sig} {W W' : Wd} {st B C : Addr} {o : MO} {ks : List Tk} (h : Tks ops W st B C o ks) (g : Grow W W') : Tks ops W' st B C o ks := by
  have lv := h.live
  refine ⟨g _ _ h.hst, g _ _ h.hB, g _ _ h.hC, fun k hk => (h.at' k hk).keep fun z hz => ?_, h.nd⟩
  cases e : W z with
  | none => exact absurd e ((h.at' k hk).live z hz)
  | some m => exact g _ _ e
theorem Tks.upd {ops : Sig} {W W' : Wd} {st B C : Addr} {o o' : MO} {ks : List Tk} {i : Nat} {k k' : Tk} (h : Tks ops W st B C o ks) (hk : ks[i]? = some k) (hc : k'.t.cells = k.t.cells) (hl : k'.l = k.l ∨ W k'.l = none) (hn : TkV ops W' k')
    (hst : W' st = some o') (hB : W' B = some (.lst ((ks.set i k').map fun k => .ptr k.l))) (hC : W' C = some (.lst ((ks.set i k').map fun k => .int k.t.n))) (keep : ∀ z, z ∉ k.cells → z ≠ st → z ≠ B → z ≠ C → W z ≠ none → W' z = W z) : Tks ops W' st B C o' (ks.set i k') := by
  have hi := (List.getElem?_eq_some_iff.mp hk).1
  have nd2 : (ks.flatMap Tk.cells).Nodup := (List.nodup_cons.mp (List.nodup_cons.mp (List.nodup_cons.mp h.nd).2).2).2
  refine ⟨hst, hB, hC, fun x hx => ?_, ?_⟩
  · obtain ⟨j, hj⟩ := List.mem_iff_getElem?.mp hx
    rw [List.getElem?_set] at hj
    by_cases e : i = j
    · rw [if_pos e, if_pos hi] at hj; cases hj; exact hn
    · rw [if_neg e] at hj
      have hm := List.mem_of_getElem? hj
      have ns := (h.tk hm).ns
      have hx' := h.at' x hm
      exact hx'.keep fun z hz => keep z (flat_dis nd2 (fun e' => e e'.symm) hj hk hz) (ns z hz).1 (ns z hz).2.1 (ns z hz).2.2 (hx'.live z hz)
  · rcases hl with hl | hl
    · have : (ks.set i k').flatMap Tk.cells = ks.flatMap Tk.cells := by
        rw [List.flatMap_def, List.flatMap_def, List.map_set]
        congr 1
        refine List.ext_getElem? fun j => ?_
        rw [List.getElem?_set]
        by_cases e : i = j
        · subst e; rw [if_pos rfl, if_pos (by rw [List.length_map]; exact hi), List.getElem?_map, hk]; exact congrArg some (show k'.cells = k.cells by unfold Tk.cells; rw [hl, hc])
        · rw [if_neg e]
      rw [this]; exact h.nd
    · have hf : k'.l ∉ st :: B :: C :: ks.flatMap Tk.cells := fun hm => h.live.2 _ hm hl
      have e1 : ks = ks.take i ++ k :: ks.drop (i + 1) := by
        have := List.set_eq_take_append_cons_drop (l := ks) (i := i) (a := k)
        rw [if_pos hi] at this
        rw [← this]
        refine List.ext_getElem? fun j => ?_
        rw [List.getElem?_set]
        by_cases e : i = j
        · subst e; rw [if_pos rfl, if_pos hi, hk]
        · rw [if_neg e]
      have e2 : ks.set i k' = ks.take i ++ k' :: ks.drop (i + 1) := by
        rw [List.set_eq_take_append_cons_drop, if_pos hi]
      have nd := h.nd
      rw [e1, List.flatMap_append, List.flatMap_cons] at nd hf
      rw [e2, List.flatMap_append, List.flatMap_cons]
      unfold Tk.cells at nd hf ⊢
      rw [hc]
      have key : ∀ {A R : List Addr} {a b : Addr}, (A ++ a :: R).Nodup → b ∉ A ++ a :: R → (A ++ b :: R).Nodup := fun {A R a b} n1 n2 => by
        rw [(List.perm_middle).nodup_iff] at n1 ⊢
        rw [List.nodup_cons] at n1 ⊢
        exact ⟨fun hm => n2 ((List.perm_middle).mem_iff.mpr (List.mem_cons_of_mem _ hm)), n1.2⟩
      have := key (A := st :: B :: C :: (ks.take i).flatMap fun k => k.l :: k.t.cells) (a := k.l) (b := k'.l) (R := k.t.cells ++ (ks.drop (i + 1)).flatMap fun k => k.l :: k.t.cells) (by simpa using nd) (by simpa using hf)
      simpa using this

abbrev n_law : List Str := ["_law_script", "_law_state_here", "_law_operations_here", "_law_signature_here", "_law_theories", "_law_books", "_law_counts", "_law_k", "_law_which", "_law_theory", "_law_book", "_law_left", "_law_right", "_law_due", "_law_number_here", "_law_entry", "_law_told_here", "_law_result"]
theorem sd_law (x0 : D) : startD n_law [x0] = [some x0, none, none, none, none, none, none, none, none, none, none, none, none, none, none, none, none, none] := rfl
def e1_law  : AE := aVar 15
def t1_law  : AT := aTest (aOp (dEq) (aOp dIx (aVar 15) (aC (.int 0))) (aVar 14))
def e2_law  : AE := aVar 15
def t2_law  : AT := aTest (aOp (dNe) (aOp dIx (aVar 15) (aC (.int 0))) (aVar 14))
def r1_law  : AS := aIfS (aNot (aTest (aCall (sp__law_agrees) [] ED0 (aCons (aVar 9) (aCons (aOp dIx (aVar 5) (aVar 8)) (aNil)))))) (aRet (aC (.bl false))) (aNext)
def b1_law  : AS := aSeq (aAsg (aOp (dIC CDiv fun i j => .int (i / j)) (aCall (sp__law_draw) [] ED0 (aCons (aVar 1) (aCons (aC (.int 4)) (aNil)))) (aC (.int 3))) (agName 8)) (aSeq (aAsg (aOp dIx (aVar 4) (aVar 8)) (agName 9)) (aSeq (aAsg (aOp dIx (aVar 5) (aVar 8)) (agName 10)) (aSeq (aIfS (aTest (aOp (dI0 fun i j => .bl (decide (j < i))) (aCall (sp__law_draw) [] ED0 (aCons (aVar 1) (aCons (aC (.int 3)) (aNil)))) (aC (.int 0)))) (aSeq (aAsg (aCall (sp__law_equation) [] ED0 (aCons (aVar 1) (aCons (aVar 2) (aNil)))) (agTup 3 (agCons (agName 11) (agCons (agName 12) (agCons (agName 13) (agNil)))))) (aSeq (aIfS (aTest (aOp (dIs false) (aVar 13) (aC .non))) (aSeq (aAsg (aTup (aCons (aC (.str "number")) (aCons (aOp dIx (aVar 6) (aVar 8)) (aNil)))) (agName 13)) (aSeq (aDrop (aBM tyL dAppend (aVar 10) (aCons (aTup (aCons (aOp dIx (aVar 6) (aVar 8)) (aCons (aVar 11) (aCons (aVar 12) (aNil))))) (aNil)))) (aAsg (aOp (dAdd false) (aOp dIx (aVar 6) (aVar 8)) (aC (.int 1))) (agSub (aVar 6) (aVar 8) dSet)))) (aNext)) (aIfS (aTest (aOp (dNe) (aCall (sp__law_told) [] ED0 (aCons (aVar 9) (aCons (aVar 11) (aCons (aVar 12) (aNil))))) (aVar 13))) (aRet (aC (.bl false))) (aNext)))) (aSeq (aAsg (aOp (dI0 fun i j => .int (i - j)) (aCall (sp__law_draw) [] ED0 (aCons (aVar 1) (aCons (aOp (dAdd false) (aOp dIx (aVar 6) (aVar 8)) (aC (.int 2))) (aNil)))) (aCB (dInt) (aCons (aOp (dEq) (aCall (sp__law_draw) [] ED0 (aCons (aVar 1) (aCons (aC (.int 9)) (aNil)))) (aC (.int 0))) (aNil)))) (agName 14)) (aSeq (aAsg (aLc false (aiSeq (aVar 10)) (agName 15) (t1_law) (e1_law) [15]) (agName 13)) (aSeq (aAsg (aCall (sp__law_drop) [] ED0 (aCons (aVar 9) (aCons (aVar 14) (aNil)))) (agTup 2 (agCons (agName 16) (agCons (agName 17) (agNil))))) (aSeq (aIfS (aOr (aTest (aOp (dNe) (aOp (dEq) (aVar 16) (aC (.str "dropped"))) (aOp (dEq) (aCB (dLen) (aCons (aVar 13) (aNil))) (aC (.int 1))))) (aTest (aOp (dIsB) (aVar 17) (aC (.bl false))))) (aRet (aC (.bl false))) (aNext)) (aSeq (aIfS (aAnd (aTest (aOp (dEq) (aCB (dLen) (aCons (aVar 13) (aNil))) (aC (.int 1)))) (aTest (aOp (dNe) (aCB (dReprX) (aCons (aVar 17) (aNil))) (aCB (dReprX) (aCons (aTup (aCons (aOp dIx (aOp dIx (aVar 13) (aC (.int 0))) (aC (.int 1))) (aCons (aOp dIx (aOp dIx (aVar 13) (aC (.int 0))) (aC (.int 2))) (aNil)))) (aNil)))))) (aRet (aC (.bl false))) (aNext)) (aSeq (aAsg (aLc true (aiSeq (aVar 10)) (agName 15) (t2_law) (e2_law) [15]) (agSub (aVar 5) (aVar 8) dSet)) (aIfS (aNot (aTest (aCall (sp__law_missing) [] ED0 (aCons (aVar 9) (aCons (aVar 14) (aNil)))))) (aRet (aC (.bl false))) (aNext))))))))) (r1_law))))
def r2_law  : AS := aSeq (aIfS (aTest (aOp (dNe) (aCall (sp__law_told) [] ED0 (aCons (aOp dIx (aVar 4) (aC (.int 0))) (aCons (aTup (aCons (aC (.str "zzzzzzzz")) (aNil))) (aCons (aC (.int 0)) (aNil))))) (aTup (aCons (aC (.str "unknown")) (aCons (aC (.str "zzzzzzzz")) (aNil)))))) (aRet (aC (.bl false))) (aNext)) (aRet (aAndV (aCall (sp__law_agrees) [] ED0 (aCons (aOp dIx (aVar 4) (aC (.int 0))) (aCons (aOp dIx (aVar 5) (aC (.int 0))) (aNil)))) (aCall (sp__law_agrees) [] ED0 (aCons (aOp dIx (aVar 4) (aC (.int 1))) (aCons (aOp dIx (aVar 5) (aC (.int 1))) (aNil))))))
def a_law  : AS := aSeq (aAsg (aCall (sp__law_state) [] ED0 (aCons (aVar 0) (aNil))) (agName 1)) (aSeq (aAsg (aCall (sp__law_operations) [] ED0 (aCons (aVar 1) (aNil))) (agName 2)) (aSeq (aAsg (aCall (sp__law_signature) [] ED0 (aCons (aVar 2) (aNil))) (agName 3)) (aSeq (aAsg (aLst false (aCons (aMake "Theory" (sp_Theory___init__) [] AW.none (aCons (aVar 3) (aNil))) (aCons (aMake "Theory" (sp_Theory___init__) [] AW.none (aCons (aVar 3) (aNil))) (aNil)))) (agName 4)) (aSeq (aDrop (aMethN "Signature" "declare" 2 0 [.p 0, .p 1, .p 2, .m 0] [(.bl false : D)] (sp_Signature_declare) AW.none (aVar 3) (aCons (aC (.str "zzzzzzzz")) (aCons (aC (.int 0)) (aNil))) (aNil))) (aSeq (aAsg (aLst true (aCons (aLst true (aNil)) (aCons (aLst true (aNil)) (aNil)))) (agName 5)) (aSeq (aAsg (aLst true (aCons (aC (.int 0)) (aCons (aC (.int 0)) (aNil)))) (agName 6)) (aSeq (aFor (aiRng1 (aCons (aOp (dAdd false) (aC (.int 5)) (aCall (sp__law_draw) [] ED0 (aCons (aVar 1) (aCons (aC (.int 26)) (aNil))))) (aNil))) (agName 7) (b1_law)) (r2_law))))))))
theorem rd_law {ds : List D} {W : Wd} {Q : DQ} {E : DX} (h : spLawD ds W Q E) : a_law (EN Q) (startD n_law ds) W := by
  obtain ⟨sc, rfl, hn, hW, q⟩ := h
  unfold a_law
  walk_at "rd"
  refine gc_state fun st o hw ho => ?_
  walk_at "rd"
  refine gc_operations (Wd.set_same ..) ho fun ops o1 hO hN ho1 => ?_
  rw [Wd.set_set]
  walk_at "rd"
  have lv : LiveL (W.set st o1) [st] := ⟨by simp, fun z hz => by rw [List.mem_singleton.mp hz, Wd.set_same]; exact fun e => by cases e⟩
  have hs0 : (W.set st o1) st = some o1 := Wd.set_same ..
  generalize W.set st o1 = W1 at hs0 lv ⊢
  refine gc__law_signature hO fun p0 a0 b0 c0 d0 hp0 wa0 wb0 wc0 => ?_
  have g1 : Grow W1 (sgW W1 p0 a0 b0 c0 (sg0 ops)) := fun z m e => by
    rw [sgW_ne (fun h => (by rw [h, hp0] at e; cases e)) (fun h => (by rw [h, wa0] at e; cases e)) (fun h => (by rw [h, wb0] at e; cases e)) (fun h => (by rw [h, wc0] at e; cases e))]
    exact e
  have hs1 := g1 _ _ hs0
  have lv := lv.grow g1
  have z0 : SgO (sgW W1 p0 a0 b0 c0 (sg0 ops)) p0 a0 b0 c0 (sg0 ops) := SgO.of d0
  have dst : st ≠ p0 ∧ st ≠ a0 ∧ st ≠ b0 ∧ st ≠ c0 := ⟨fun h => (by rw [h, hp0] at hs0; cases hs0), fun h => (by rw [h, wa0] at hs0; cases hs0), fun h => (by rw [h, wb0] at hs0; cases hs0), fun h => (by rw [h, wc0] at hs0; cases hs0)⟩
  clear hs0 g1 hp0 wa0 wb0 wc0
  generalize sgW W1 p0 a0 b0 c0 (sg0 ops) = W2 at hs1 lv z0 ⊢
  walk_at "rd"
  intro T0 hT0
  refine gc_Theory (Wd.set_same ..) (z0.grow ((Grow.refl W2).set hT0)).at' hO.sgV fun t0 W3 e1 e2 e3 e4 th0 c1 c2 => ⟨rfl, ?_⟩
  have g : Grow W2 W3 := fun z m e => by
    have hz : z ≠ T0 := fun h => (by rw [h, hT0] at e; cases e)
    exact c2 z m hz (by rw [Wd.set_ne hz]; exact e)
  have cn : ∀ z ∈ t0.cells, W2 z = none := fun z hz => by
    by_cases h : z = T0
    · rw [h]; exact hT0
    · have := c1 z hz h
      rwa [Wd.set_ne h] at this
  have dj0 : ∀ z ∈ t0.cells, z ≠ p0 ∧ z ≠ a0 ∧ z ≠ b0 ∧ z ≠ c0 := fun z hz => by
    have hn := cn z hz
    exact ⟨fun h => (by rw [h, z0.wp] at hn; cases hn), fun h => (by rw [h, z0.wa] at hn; cases hn), fun h => (by rw [h, z0.wb] at hn; cases hn), fun h => (by rw [h, z0.wc] at hn; cases hn)⟩
  have lv := lv.app g th0.nd fun z hz => ⟨cn z hz, th0.live z hz⟩
  have hs2 := g _ _ hs1
  have z0 := z0.grow g
  subst e1
  clear g cn c1 c2 hT0 hs1
  walk_at "rd"
  intro T1 hT1
  refine gc_Theory (Wd.set_same ..) (z0.grow ((Grow.refl W3).set hT1)).at' hO.sgV fun t1 W4 e1 f2 f3 f4 th1 c1 c2 => ⟨rfl, ?_⟩
  have g : Grow W3 W4 := fun z m e => by
    have hz : z ≠ T1 := fun h => (by rw [h, hT1] at e; cases e)
    exact c2 z m hz (by rw [Wd.set_ne hz]; exact e)
  have cn : ∀ z ∈ t1.cells, W3 z = none := fun z hz => by
    by_cases h : z = T1
    · rw [h]; exact hT1
    · have := c1 z hz h
      rwa [Wd.set_ne h] at this
  have dj1 : ∀ z ∈ t1.cells, z ≠ p0 ∧ z ≠ a0 ∧ z ≠ b0 ∧ z ≠ c0 := fun z hz => by
    have hn := cn z hz
    exact ⟨fun h => (by rw [h, z0.wp] at hn; cases hn), fun h => (by rw [h, z0.wa] at hn; cases hn), fun h => (by rw [h, z0.wb] at hn; cases hn), fun h => (by rw [h, z0.wc] at hn; cases hn)⟩
  have lv := lv.app g th1.nd fun z hz => ⟨cn z hz, th1.live z hz⟩
  have hs3 := g _ _ hs2
  have z0 := z0.grow g
  have th0 := th0.grow g
  subst e1
  clear g cn c1 c2 hT1 hs2
  have l8 : ("zzzzzzzz" : Str).length = 8 := by decide +kernel
  have hz8 : ("zzzzzzzz" : Str) ∉ ops.map Prod.fst := fun h => by
    obtain ⟨x, hx, e⟩ := List.mem_map.mp h
    have := (hO.2.2.2 _ hx).2.2
    rw [e] at this
    omega
  have lS : (sg0 ops).length = ops.length := mkS_len (fl0_len ops)
  have l6 := hO.len.2
  walk_at "rd"
  rw [← z0.eq]
  walk_at "rd"
  refine ⟨⟨_, objOf_ptr (by rw [z0.eq]; exact z0.wp), rfl⟩, ?_⟩
  walk_at "rd"
  refine ⟨rfl, rfl, ?_⟩
  simp only [pick, List.getElem?_cons_zero, List.getElem?_cons_succ, Option.toList_some, List.cons_append, List.nil_append]
  refine gc_declare z0.d (by rw [l8]; decide) (by omega) (spDecl_ok (by decide +kernel) (by omega) (by omega) (fun z => by cases z) (by rw [sg0_names]; exact hz8) (by omega) ?_)
  have kp : ∀ {z : Addr}, (z ≠ p0 ∧ z ≠ a0 ∧ z ≠ b0 ∧ z ≠ c0) → ∀ S, (sgW W4 p0 a0 b0 c0 S) z = W4 z := fun h S => sgW_ne h.1 h.2.1 h.2.2.1 h.2.2.2
  have lv := lv.keep fun z hz => by
    refine kp ?_ (sg0 ops ++ [(("zzzzzzzz" : Str), (0 : Int), false)])
    rcases List.mem_append.mp hz with h | h
    · exact dj1 z h
    rcases List.mem_append.mp h with h | h
    · exact dj0 z h
    · rw [List.mem_singleton.mp h]; exact dst
  have th0 := th0.keep fun z hz => kp (dj0 z hz) (sg0 ops ++ [(("zzzzzzzz" : Str), (0 : Int), false)])
  have th1 := th1.keep fun z hz => kp (dj1 z hz) (sg0 ops ++ [(("zzzzzzzz" : Str), (0 : Int), false)])
  have hs4 := (kp dst (sg0 ops ++ [(("zzzzzzzz" : Str), (0 : Int), false)])).trans hs3
  clear kp z0 hs3
  generalize sgW W4 p0 a0 b0 c0 (sg0 ops ++ [(("zzzzzzzz" : Str), (0 : Int), false)]) = W5 at lv th0 th1 hs4 ⊢
  walk_at "rd"
  intro l0 hl0
  have lv := lv.new (m := .lst []) hl0
  have g0 : Grow W5 (W5.set l0 (.lst [])) := (Grow.refl W5).set hl0
  have v0 : (W5.set l0 (.lst [])) l0 = some (.lst []) := Wd.set_same ..
  generalize W5.set l0 (.lst []) = W6 at lv g0 v0 ⊢
  walk_at "rd"
  intro l1 hl1
  have lv := lv.new (m := .lst []) hl1
  have g1 : Grow W6 (W6.set l1 (.lst [])) := (Grow.refl W6).set hl1
  have v1 : (W6.set l1 (.lst [])) l1 = some (.lst []) := Wd.set_same ..
  generalize W6.set l1 (.lst []) = W7 at lv g1 v1 ⊢
  walk_at "rd"
  intro B hB
  have lv := lv.new (m := .lst [.ptr l0, .ptr l1]) hB
  have g2 : Grow W7 (W7.set B (.lst [.ptr l0, .ptr l1])) := (Grow.refl W7).set hB
  have v2 : (W7.set B (.lst [.ptr l0, .ptr l1])) B = some (.lst [.ptr l0, .ptr l1]) := Wd.set_same ..
  generalize W7.set B (.lst [.ptr l0, .ptr l1]) = W8 at lv g2 v2 ⊢
  walk_at "rd"
  intro C hC
  have lv := lv.new (m := .lst [.int 0, .int 0]) hC
  have g3 : Grow W8 (W8.set C (.lst [.int 0, .int 0])) := (Grow.refl W8).set hC
  have v3 : (W8.set C (.lst [.int 0, .int 0])) C = some (.lst [.int 0, .int 0]) := Wd.set_same ..
  generalize W8.set C (.lst [.int 0, .int 0]) = W9 at lv g3 v3 ⊢
  have gg := (g0.trans g1).trans (g2.trans g3)
  have tv : ∀ {t : Thy} {l : Addr}, ThyO W9 t → t.S = sg0 ops → t.n = 0 → t.E = [] → W9 l = some (.lst []) → TkV ops W9 ⟨t, l⟩ := fun {t l} h1 h2 h3 h4 h5 => by
    refine ⟨h1, by rw [h4]; exact h5, h2, by rw [h4]; exact .nil, fun z hz => ?_, by simp only [h3]; decide, by simp only [h3, h4]; decide⟩
    simp only [h4] at hz
    cases hz
  have hbk : Tks ops W9 st B C o1 [⟨t0, l0⟩, ⟨t1, l1⟩] := by
    refine ⟨gg _ _ hs4, g3 _ _ v2, ?_, fun k hk => ?_, ?_⟩
    · simp only [List.map_cons, List.map_nil, e3, f3]; exact v3
    · simp only [List.mem_cons, List.not_mem_nil, or_false] at hk
      rcases hk with rfl | rfl
      · exact tv (th0.grow gg) e2 e3 e4 ((g1.trans (g2.trans g3)) _ _ v0)
      · exact tv (th1.grow gg) f2 f3 f4 ((g2.trans g3) _ _ v1)
    · have := lv.1
      have pm : (C :: B :: l1 :: l0 :: (t1.cells ++ (t0.cells ++ [st]))).Perm (st :: B :: C :: [Tk.mk t0 l0, Tk.mk t1 l1].flatMap Tk.cells) := by
        rw [List.perm_iff_count]
        intro z
        simp only [List.flatMap_cons, List.flatMap_nil, Tk.cells, List.count_cons, List.count_append, List.count_nil]
        omega
      exact pm.nodup_iff.mp this
  have hp : [Tk.mk t0 l0, Tk.mk t1 l1].map (fun k => D.ptr k.t.T) = [.ptr t0.T, .ptr t1.T] := rfl
  have hlo : ∀ k ∈ [Tk.mk t0 l0, Tk.mk t1 l1], k.t.n ≤ 0 := fun k hk => by
    simp only [List.mem_cons, List.not_mem_nil, or_false] at hk
    rcases hk with rfl | rfl
    · simp only [e3]; omega
    · simp only [f3]; omega
  clear g0 g1 g2 g3 v0 v1 v2 v3 tv gg lv hs4 th0 th1 hl0 hl1 hB hC dj0 dj1 dst
  generalize t0.T = T0 at hp ⊢
  generalize t1.T = T1 at hp ⊢
  generalize [Tk.mk t0 l0, Tk.mk t1 l1] = ks at hbk hp hlo
  have hst := hbk.hst
  walk_at "rd"
  rename_i it o2 it0 it1 ho2
  have hb := hbk.setSt o2
  generalize W9.set st o2 = W10 at hb ⊢
  clear hbk hst
  have fin : ∀ (ks : List Tk) (o : MO) (W : Wd) (x7 x8 x9 x10 x11 x12 x13 x14 x15 x16 x17 : Option D), StO o → Tks ops W st B C o ks → ks.map (fun k => D.ptr k.t.T) = [.ptr T0, .ptr T1] → (∀ k ∈ ks, k.t.n ≤ 50) →
      r2_law (EN Q) [some (.flst (sc.map .int)), some (.ptr st), some (.lst (ops.map opD)), some (.ptr p0), some (.lst [.ptr T0, .ptr T1]), some (.ptr B), some (.ptr C), x7, x8, x9, x10, x11, x12, x13, x14, x15, x16, x17] W := by
    intro ks o W x7 x8 x9 x10 x11 x12 x13 x14 x15 x16 x17 ho hb hp hlo
    match ks, hb, hp, hlo with
    | [k0, k1], hb, hp, hlo =>
      simp only [List.map_cons, List.map_nil, List.cons.injEq, D.ptr.injEq, and_true] at hp
      obtain ⟨rfl, rfl⟩ := hp
      have v0 := hb.at' k0 (by simp)
      have v1 := hb.at' k1 (by simp)
      have n0 := hlo k0 (by simp)
      have n1 := hlo k1 (by simp)
      have s0 := v0.le
      have hB : W B = some (.lst [.ptr k0.l, .ptr k1.l]) := hb.hB
      unfold r2_law
      walk_at "rd"
      have hl1 : (Trm.app "zzzzzzzz" []).depth ≤ 30 ∧ (Trm.app "zzzzzzzz" []).size ≤ 400 := by simp [Trm.depth, Trm.depths, Trm.size, Trm.sizes]
      have hl2 : (Trm.var 0).depth ≤ 30 ∧ (Trm.var 0).size ≤ 400 := by simp [Trm.depth, Trm.size]
      refine ⟨k0.t, ops, .app "zzzzzzzz" [], .var 0, by simp, v0.th, v0.sg, hO.2.2.1, fun z hz => (v0.at' z hz).1.2, by omega, hl1, hl2, .inl ⟨"zzzzzzzz", by simp [Trm.bad, badAt, hz8], ?_⟩⟩
      walk_at "rd"
      refine go_neSS ?_
      walk_at "rd"
      refine gc__law_agrees v0.th v0.wl hO (v0.eqs (by omega)) fun W2 g => ?_
      have hB := g _ _ hB
      have v1 := (hb.grow g).at' k1 (by simp)
      walk_at "rd"
      refine gc__law_agrees v1.th v1.wl hO (v1.eqs (by omega)) fun W3 g => ?_
      exact q _
  refine forL_inv (fun ds δ W' => ∃ (m : Nat) (j : Int) (ks : List Tk) (o : MO) (x7 x8 x9 x10 x11 x12 x13 x14 x15 x16 x17 : Option D), StO o ∧ Tks ops W' st B C o ks ∧ ks.map (fun k => D.ptr k.t.T) = [.ptr T0, .ptr T1] ∧ (∀ k ∈ ks, k.t.n ≤ j) ∧ ds = rangeD j m ∧ j + m ≤ 31 ∧ 0 ≤ j ∧
      δ = [some (.flst (sc.map .int)), some (.ptr st), some (.lst (ops.map opD)), some (.ptr p0), some (.lst [.ptr T0, .ptr T1]), some (.ptr B), some (.ptr C), x7, x8, x9, x10, x11, x12, x13, x14, x15, x16, x17])
    ⟨_, _, ks, o2, none, none, none, none, none, none, none, none, none, none, none, ho2, hb, hp, hlo, rfl, by omega, by omega, rfl⟩ (fun _ _ _ _ => trivial) ?_ ?_
  · rintro d ds δ W' N ⟨m, j, ks, o, x7, x8, x9, x10, x11, x12, x13, x14, x15, x16, x17, ho, hb, hp, hlo, e, hj, hj0, rfl⟩ kk
    cases m with
    | zero => cases e
    | succ m =>
      rw [rangeD_succ] at e
      cases e
      have hst := hb.hst
      have kl : ks.length = 2 := by have := congrArg List.length hp; rwa [List.length_map] at this
      unfold b1_law
      walk_at "rd"
      rename_i w o1 w0 w1 ho1
      have hb := hb.setSt o1
      have hst := hb.hst
      generalize W'.set st o1 = W7 at hb hst ⊢
      have hw2 : (w / 3).toNat < ks.length := by omega
      obtain ⟨k, hk⟩ : ∃ k, ks[(w / 3).toNat]? = some k := ⟨_, List.getElem?_eq_getElem hw2⟩
      have hkm := List.mem_of_getElem? hk
      have ep : atI [D.ptr T0, D.ptr T1] (w / 3) = some (.ptr k.t.T) := by rw [← hp, atI_of (by omega), List.getElem?_map, hk]; rfl
      have el : atI (ks.map fun k => D.ptr k.l) (w / 3) = some (.ptr k.l) := by rw [atI_of (by omega), List.getElem?_map, hk]; rfl
      have ec : atI (ks.map fun k => D.int k.t.n) (w / 3) = some (.int k.t.n) := by rw [atI_of (by omega), List.getElem?_map, hk]; rfl
      have hkj := hlo k hkm
      have hsp : ∀ k' : Tk, k'.t.T = k.t.T → (ks.set (w / 3).toNat k').map (fun k => D.ptr k.t.T) = [.ptr T0, .ptr T1] := fun k' e => by
        rw [List.map_set, ← hp, e]
        refine List.ext_getElem? fun i => ?_
        rw [List.getElem?_set]
        by_cases h : (w / 3).toNat = i
        · subst h; rw [if_pos rfl, if_pos (by rw [List.length_map]; exact hw2), List.getElem?_map, hk]; rfl
        · rw [if_neg h]
      have tl : ∀ (A : AEnds) (W' : Wd) (k' : Tk) (o' : MO) (x10 x11 x12 x13 x14 x15 x16 x17 : Option D), A.nx = N → StO o' → Tks ops W' st B C o' (ks.set (w / 3).toNat k') → k'.t.T = k.t.T → k'.t.n ≤ j + 1 →
          r1_law A [some (.flst (sc.map .int)), some (.ptr st), some (.lst (ops.map opD)), some (.ptr p0), some (.lst [.ptr T0, .ptr T1]), some (.ptr B), some (.ptr C), some (.int j), some (.int (w / 3)), some (.ptr k.t.T), x10, x11, x12, x13, x14, x15, x16, x17] W' := by
        intro A W' k' o' x10 x11 x12 x13 x14 x15 x16 x17 hA ho' hb' eT hn'
        subst hA
        have hk' : (ks.set (w / 3).toNat k')[(w / 3).toNat]? = some k' := by rw [List.getElem?_set, if_pos rfl, if_pos hw2]
        have v := hb'.at' k' (List.mem_of_getElem? hk')
        have el' : atI ((ks.set (w / 3).toNat k').map fun k => D.ptr k.l) (w / 3) = some (.ptr k'.l) := by rw [atI_of (by omega), List.getElem?_map, hk']; rfl
        unfold r1_law
        walk_at "rd"
        refine go_ixP hb'.hB el' ?_
        walk_at "rd"
        rw [← eT]
        refine gc__law_agrees v.th v.wl hO (v.eqs (by omega)) fun W2 g => ?_
        walk_at "rd"
        refine kk _ _ ⟨m, _, _, o', _, _, _, _, _, _, _, _, _, _, _, ho', hb'.grow g, hsp k' eT, fun x hx => ?_, rfl, by omega, by omega, rfl⟩
        obtain ⟨i, hi⟩ := List.mem_iff_getElem?.mp hx
        rw [List.getElem?_set] at hi
        by_cases h : (w / 3).toNat = i
        · rw [if_pos h, if_pos hw2] at hi; cases hi; exact hn'
        · rw [if_neg h] at hi
          have := hlo x (List.mem_of_getElem? hi)
          omega
      refine go_ixL ep ?_
      walk_at "rd"
      refine go_ixP hb.hB el ?_
      walk_at "rd"
      rename_i c o3 c0 c1 ho3
      have hb := hb.setSt o3
      have hst := hb.hst
      generalize W7.set st o3 = W8 at hb hst ⊢
      by_cases hc : 0 < c
      · rw [if_pos (by rw [decide_eq_true hc])]
        walk_at "rd"
        refine gc__law_equation hst ho3 hO hN fun l r d o4 hkd hl hr ho4 => ?_
        have hb := hb.setSt o4
        have hst := hb.hst
        generalize W8.set st o4 = W9 at hb hst ⊢
        have v := hb.at' k hkm
        have nk := hb.tk hkm
        have hle := v.le
        have same : ks.set (w / 3).toNat k = ks := by
          refine List.ext_getElem? fun i => ?_
          rw [List.getElem?_set]
          by_cases h : (w / 3).toNat = i
          · subst h; rw [if_pos rfl, if_pos hw2, hk]
          · rw [if_neg h]
        walk_at "rd"
        rcases hkd with ⟨z, ez, rfl⟩ | ⟨b1, b2, b3, rfl⟩ | ⟨b1, b2, b3, ⟨wl, wr⟩, rfl⟩
        · walk_at "rd"
          refine ⟨k.t, ops, l, r, rfl, v.th, v.sg, hO.2.2.1, fun z hz => (v.at' z hz).1.2, by omega, ⟨by omega, by omega⟩, ⟨by omega, by omega⟩, .inl ⟨z, ez, ?_⟩⟩
          walk_at "rd"
          refine go_neSS ?_
          walk_at "rd"
          exact tl _ _ k o4 _ _ _ _ _ _ _ _ rfl ho4 (by rw [same]; exact hb) rfl (by omega)
        · walk_at "rd"
          refine ⟨k.t, ops, l, r, rfl, v.th, v.sg, hO.2.2.1, fun z hz => (v.at' z hz).1.2, by omega, ⟨by omega, by omega⟩, ⟨by omega, by omega⟩, .inr (.inl ⟨b1, b2, b3, ?_⟩)⟩
          walk_at "rd"
          refine go_neSI ?_
          walk_at "rd"
          exact tl _ _ k o4 _ _ _ _ _ _ _ _ rfl ho4 (by rw [same]; exact hb) rfl (by omega)
        · walk_at "rd"
          refine go_ixP hb.hC ec ?_
          have wk := v.wl
          walk_at "rd"
          refine go_ixP hb.hC ec ?_
          walk_at "rd"
          have nl := nk.ns k.l List.mem_cons_self
          have lC : (W9.set k.l (.lst (k.t.E.map entT ++ [.tup [.int k.t.n, l.d, r.d]]))) C = _ := (Wd.set_ne (Ne.symm nl.2.2)).trans hb.hC
          refine go_ixP lC ec ?_
          walk_at "rd"
          refine go_setL lC (ixN_of (by omega) (by rw [List.length_map]; omega)) rfl ?_
          obtain ⟨W10, e10⟩ : ∃ W10, (W9.set k.l (.lst (k.t.E.map entT ++ [.tup [.int k.t.n, l.d, r.d]]))).set C (.lst ((ks.map fun k => D.int k.t.n).set (w / 3).toNat (.int (k.t.n + 1)))) = W10 := ⟨_, rfl⟩
          rw [e10]
          have k10 : ∀ z, z ≠ k.l → z ≠ C → W10 z = W9 z := fun z h1 h2 => by rw [← e10, Wd.set_ne h2, Wd.set_ne h1]
          have c10 : W10 C = some (.lst ((ks.map fun k => D.int k.t.n).set (w / 3).toNat (.int (k.t.n + 1)))) := by rw [← e10, Wd.set_same]
          have l10 : W10 k.l = some (.lst (k.t.E.map entT ++ [.tup [.int k.t.n, l.d, r.d]])) := by rw [← e10, Wd.set_ne nl.2.2, Wd.set_same]
          clear e10 lC
          have knd := nk.nd
          unfold Tk.cells at knd
          rw [List.nodup_cons] at knd
          have tin : ∀ z ∈ k.t.cells, z ≠ k.l ∧ z ≠ st ∧ z ≠ B ∧ z ≠ C := fun z hz => ⟨fun e => knd.1 (by rw [← e]; exact hz), nk.ns z (List.mem_cons_of_mem _ hz)⟩
          have th10 : ThyO W10 k.t := v.th.keep fun z hz => k10 z (tin z hz).1 (tin z hz).2.2.2
          have mT := tin k.t.T (by simp [Thy.cells])
          have me := tin k.t.e (by simp [Thy.cells])
          walk_at "rd"
          refine ⟨k.t, ops, l, r, rfl, th10, v.sg, hO.2.2.1, fun z hz => (v.at' z hz).1.2, by omega, ⟨by omega, by omega⟩, ⟨by omega, by omega⟩, .inr (.inr ⟨b1, b2, b3, fun W11 th11 k11 => ?_⟩)⟩
          walk_at "rd"
          refine go_neSI ?_
          walk_at "rd"
          have g11 : ∀ z, z ≠ k.l → z ≠ C → z ≠ k.t.T → z ≠ k.t.e → W11 z = W9 z := fun z h1 h2 h3 h4 => (k11 z h3 h4).trans (k10 z h1 h2)
          have n0 := v.n0
          refine tl _ W11 ⟨k.t.plus l r, k.l⟩ o4 _ _ _ _ _ _ _ _ rfl ho4 (hb.upd hk rfl (.inl rfl) ⟨th11, ?_, v.sg, ?_, ?_, ?_, ?_⟩ ?_ ?_ ?_ ?_) rfl (by show k.t.n + 1 ≤ j + 1; omega)
          · rw [k11 _ (Ne.symm mT.1) (Ne.symm me.1), l10]
            show _ = some (MO.lst ((k.t.E ++ [(k.t.n, l, r)]).map entT))
            rw [List.map_append]; rfl
          · show ((k.t.E ++ [(k.t.n, l, r)]).map (·.1)).Pairwise (· < ·)
            rw [List.map_append, List.pairwise_append]
            refine ⟨v.so, by simp, fun x hx y hy => ?_⟩
            obtain ⟨z, hz, rfl⟩ := List.mem_map.mp hx
            simp only [List.map_cons, List.map_nil, List.mem_singleton] at hy
            rw [hy]
            exact (v.at' z hz).1.2
          · intro z hz
            have hz : z ∈ k.t.E ++ [(k.t.n, l, r)] := hz
            rcases List.mem_append.mp hz with h | h
            · obtain ⟨⟨h1, h2⟩, h3⟩ := v.at' z h
              exact ⟨⟨h1, by show z.1 < k.t.n + 1; omega⟩, h3⟩
            · rw [List.mem_singleton.mp h]
              exact ⟨⟨n0, by show k.t.n < k.t.n + 1; omega⟩, ⟨wl, hl⟩, wr, hr⟩
          · show 0 ≤ k.t.n + 1; omega
          · show (((k.t.E ++ [(k.t.n, l, r)]).length : Nat) : Int) ≤ k.t.n + 1
            rw [List.length_append, List.length_singleton]; omega
          · rw [g11 st (Ne.symm nl.1) nk.dg.2.1 (Ne.symm mT.2.1) (Ne.symm me.2.1)]; exact hst
          · rw [g11 B (Ne.symm nl.2.1) nk.dg.2.2 (Ne.symm mT.2.2.1) (Ne.symm me.2.2.1), hb.hB, List.map_set]
            congr 2
            refine List.ext_getElem? fun i => ?_
            rw [List.getElem?_set]
            by_cases h : (w / 3).toNat = i
            · subst h; rw [if_pos rfl, if_pos (by rw [List.length_map]; exact hw2), List.getElem?_map, hk]; rfl
            · rw [if_neg h]
          · rw [k11 C (Ne.symm mT.2.2.2) (Ne.symm me.2.2.2), c10, List.map_set]; rfl
          · intro z hz _ _ h3 _
            unfold Tk.cells at hz
            rw [List.mem_cons, not_or] at hz
            exact g11 z hz.1 h3 (fun e => hz.2 (by rw [e]; simp [Thy.cells])) fun e => hz.2 (by rw [e]; simp [Thy.cells])
      · rw [if_neg (by rw [decide_eq_false hc]; decide)]
        have v := hb.at' k hkm
        have n0 := v.n0
        have nk := hb.tk hkm
        have hle := v.le
        walk_at "rd"
        refine go_ixP hb.hC ec ?_
        walk_at "rd"
        rename_i y o5 y0 y1 ho5 i o6 i0 i1 ho6
        generalize (y - if decide (i = 0) = true then 1 else 0) = n
        have hb := hb.setSt o5
        have hb := hb.setSt o6
        rw [Wd.set_set] at hb
        have hst := hb.hst
        generalize W8.set st o6 = W9 at hb hst ⊢
        have v := hb.at' k hkm
        have hdue := due_one (n := n) v.so
        refine walk_lr (lstRd_ptr v.wl) ?_
        refine lcG_pure entT entT (fun y => decide (y.1 = n)) k.t.E (by rw [sizeLine_val]; omega) (fun L m hL => okOf_lr (lstRd_ptr v.wl) ((Grow.refl W9).set hL)) (fun y hy W' Q' P k1 k2 => ?_) ?_
        · unfold entT t1_law e1_law
          walk_at "rd"
          by_cases h : y.1 = n
          · rw [decide_eq_true h] at k1 ⊢
            walk_at "rd"
            exact k1 rfl
          · rw [decide_eq_false h] at k2 ⊢
            walk_at "rd"
            exact k2 rfl
        rw [if_neg (by decide)]
        walk_at "rd"
        have nl := nk.ns k.l List.mem_cons_self
        have knd := nk.nd
        unfold Tk.cells at knd
        rw [List.nodup_cons] at knd
        have tin : ∀ z ∈ k.t.cells, z ≠ k.l ∧ z ≠ st ∧ z ≠ B ∧ z ≠ C := fun z hz => ⟨fun e => knd.1 (by rw [← e]; exact hz), nk.ns z (List.mem_cons_of_mem _ hz)⟩
        have me := tin k.t.e (by simp [Thy.cells])
        have fin2 : ∀ (W' : Wd) (p : Addr), ThyO W' (k.t.less n) → (∀ z, z ≠ k.t.e → W' z = W9 z) → W' p = none →
            Tks ops ((W'.set p (.lst ((k.t.E.filter fun y => decide (y.1 ≠ n)).map entT))).set B (.lst ((ks.map fun k => D.ptr k.l).set (w / 3).toNat (.ptr p)))) st B C o6 (ks.set (w / 3).toNat ⟨k.t.less n, p⟩) := by
          intro W' p th kp hp'
          have pe : p ≠ k.t.e := fun e => by rw [e] at hp'; exact absurd hp' (th.live k.t.e (by simp [Thy.cells, Thy.less]))
          have p9 : W9 p = none := by rw [← kp p pe]; exact hp'
          have pB : p ≠ B := fun e => by rw [e, hb.hB] at p9; cases p9
          have pC : p ≠ C := fun e => by rw [e, hb.hC] at p9; cases p9
          have pst : p ≠ st := fun e => by rw [e, hst] at p9; cases p9
          refine hb.upd hk rfl (.inr p9) ⟨th.keep fun z hz => ?_, ?_, v.sg, ?_, ?_, v.n0, ?_⟩ ?_ ?_ ?_ ?_
          · rw [Wd.set_ne (tin z hz).2.2.1, Wd.set_ne fun e => th.live z hz (by rw [e]; exact hp')]
          · rw [Wd.set_ne pB, Wd.set_same]; rfl
          · exact List.pairwise_map.mpr ((List.pairwise_map.mp v.so).filter _)
          · exact fun z hz => v.at' z (List.mem_filter.mp hz).1
          · have : (k.t.E.filter fun y => decide (y.1 ≠ n)).length ≤ k.t.E.length := List.length_filter_le ..
            show (((k.t.E.filter fun y => decide (y.1 ≠ n)).length : Nat) : Int) ≤ k.t.n
            omega
          · rw [Wd.set_ne nk.dg.1, Wd.set_ne (Ne.symm pst), kp _ (Ne.symm me.2.1)]; exact hst
          · rw [Wd.set_same, List.map_set]
          · rw [Wd.set_ne (Ne.symm nk.dg.2.2), Wd.set_ne (Ne.symm pC), kp _ (Ne.symm me.2.2.2), hb.hC, List.map_set]
            congr 2
            refine (List.ext_getElem? fun i => ?_).symm
            rw [List.getElem?_set]
            by_cases h : (w / 3).toNat = i
            · subst h; rw [if_pos rfl, if_pos (by rw [List.length_map]; exact hw2), List.getElem?_map, hk]; rfl
            · rw [if_neg h]
          · intro z hz _ h2 _ h4
            unfold Tk.cells at hz
            rw [List.mem_cons, not_or] at hz
            rw [Wd.set_ne h2, Wd.set_ne (fun e => h4 (by rw [e]; exact p9)), kp _ fun e => hz.2 (by rw [e]; simp [Thy.cells])]
        cases he : eqOf k.t.E n with
        | none =>
          rw [he] at hdue
          dsimp only at hdue
          rw [hdue]
          walk_at "rd"
          refine gc__law_drop v.th (fun z e => by rw [he] at e; cases e) fun _ => ?_
          walk_at "rd"
          rw [show decide (("missing" : Str) = "dropped") = false by decide +kernel]
          refine go_neBB ?_
          obtain ⟨W2, e2⟩ : ∃ W2, W9 = W2 := ⟨_, rfl⟩
          have wl2 : W2 k.l = _ := e2 ▸ v.wl
          have th2 : ThyO W2 (k.t.less n) := by rw [less_same he, ← e2]; exact v.th
          have kp2 : ∀ z, z ≠ k.t.e → W2 z = W9 z := fun _ _ => by rw [e2]
          rw [e2]
          walk_at "rd"
          refine go_isBB ?_
          walk_at "rd"
          refine lcG_pure (W := W2) entT entT (fun y => decide (y.1 ≠ n)) k.t.E (by rw [sizeLine_val]; omega) (fun L m hL => by exact ((Grow.refl W2).set hL) _ _ wl2) (fun y hy W' Q' P k1 k2 => ?_) ?_
          · unfold entT t2_law e2_law
            walk_at "rd"
            by_cases h : y.1 = n
            · rw [decide_eq_true h]
              walk_at "rd"
              exact k2 (decide_eq_false fun z => z h)
            · rw [decide_eq_false h]
              walk_at "rd"
              exact k1 (decide_eq_true h)
          rw [if_pos rfl]
          intro p hp2
          have hks := fin2 W2 p th2 kp2 hp2
          have hB2 : (W2.set p (.lst ((k.t.E.filter fun y => decide (y.1 ≠ n)).map entT))) B = some (.lst (ks.map fun k => D.ptr k.l)) := by
            rw [Wd.set_ne fun e => (by rw [← e, kp2 _ (Ne.symm me.2.2.1), hb.hB] at hp2; cases hp2), kp2 _ (Ne.symm me.2.2.1)]
            exact hb.hB
          walk_at "rd"
          refine go_setL hB2 (ixN_of (by omega) (by rw [List.length_map]; omega)) rfl ?_
          have hk3 : (ks.set (w / 3).toNat ⟨k.t.less n, p⟩)[(w / 3).toNat]? = some ⟨k.t.less n, p⟩ := by rw [List.getElem?_set, if_pos rfl, if_pos hw2]
          generalize (W2.set p (.lst ((k.t.E.filter fun y => decide (y.1 ≠ n)).map entT))).set B (.lst ((ks.map fun k => D.ptr k.l).set (w / 3).toNat (.ptr p))) = W3 at hks ⊢
          have th3 := (hks.at' _ (List.mem_of_getElem? hk3)).th
          walk_at "rd"
          refine gc__law_missing (t := k.t.less n) th3 less_none ?_
          walk_at "rd"
          exact tl _ W3 ⟨k.t.less n, p⟩ o6 _ _ _ _ _ _ _ _ rfl ho6 hks rfl (by show k.t.n ≤ j + 1; omega)
        | some z =>
          rw [he] at hdue
          dsimp only at hdue
          rw [hdue]
          walk_at "rd"
          refine gc__law_drop v.th (fun z' e W2 th2 kp2 => ?_) fun e => by rw [he] at e; cases e
          rw [he] at e
          cases e
          walk_at "rd"
          rw [decide_eq_true rfl]
          refine go_neBB ?_
          have wl2 : W2 k.l = _ := (kp2 _ (Ne.symm me.1)).trans v.wl
          walk_at "rd"
          refine go_isBT ?_
          walk_at "rd"
          obtain ⟨wz, wz'⟩ := (v.at' (n, z.1, z.2) (by
            have : (n, z.1, z.2) ∈ k.t.E.filter fun y => decide (y.1 = n) := by rw [hdue]; exact List.mem_singleton_self _
            exact (List.mem_filter.mp this).1)).2
          have hrp : Rp (.tup [z.1.d, z.2.d]) 12 3000 := by
            have := wz.2; have := wz'.2
            dsimp only at *
            exact (rp_tup (rps_cons (rp_trm (wz.1.tn hO (by decide))) (rps_cons (rp_trm (wz'.1.tn hO (by decide))) rps_nil))).mono (by omega) (by omega)
          refine go_reprE hrp (by omega) (by omega) ?_
          have ed : [(n, z.1, z.2)].map entT = [.tup [.int n, z.1.d, z.2.d]] := rfl
          rw [ed]
          walk_at "rd"
          refine go_reprE hrp (by omega) (by omega) ?_
          walk_at "rd"
          refine lcG_pure (W := W2) entT entT (fun y => decide (y.1 ≠ n)) k.t.E (by rw [sizeLine_val]; omega) (fun L m hL => by exact ((Grow.refl W2).set hL) _ _ wl2) (fun y hy W' Q' P k1 k2 => ?_) ?_
          · unfold entT t2_law e2_law
            walk_at "rd"
            by_cases h : y.1 = n
            · rw [decide_eq_true h]
              walk_at "rd"
              exact k2 (decide_eq_false fun z => z h)
            · rw [decide_eq_false h]
              walk_at "rd"
              exact k1 (decide_eq_true h)
          rw [if_pos rfl]
          intro p hp2
          have hks := fin2 W2 p th2 kp2 hp2
          have hB2 : (W2.set p (.lst ((k.t.E.filter fun y => decide (y.1 ≠ n)).map entT))) B = some (.lst (ks.map fun k => D.ptr k.l)) := by
            rw [Wd.set_ne fun e => (by rw [← e, kp2 _ (Ne.symm me.2.2.1), hb.hB] at hp2; cases hp2), kp2 _ (Ne.symm me.2.2.1)]
            exact hb.hB
          walk_at "rd"
          refine go_setL hB2 (ixN_of (by omega) (by rw [List.length_map]; omega)) rfl ?_
          have hk3 : (ks.set (w / 3).toNat ⟨k.t.less n, p⟩)[(w / 3).toNat]? = some ⟨k.t.less n, p⟩ := by rw [List.getElem?_set, if_pos rfl, if_pos hw2]
          generalize (W2.set p (.lst ((k.t.E.filter fun y => decide (y.1 ≠ n)).map entT))).set B (.lst ((ks.map fun k => D.ptr k.l).set (w / 3).toNat (.ptr p))) = W3 at hks ⊢
          have th3 := (hks.at' _ (List.mem_of_getElem? hk3)).th
          walk_at "rd"
          refine gc__law_missing (t := k.t.less n) th3 less_none ?_
          walk_at "rd"
          exact tl _ W3 ⟨k.t.less n, p⟩ o6 _ _ _ _ _ _ _ _ rfl ho6 hks rfl (by show k.t.n ≤ j + 1; omega)
  · rintro δ W' ⟨m, j, ks, o, x7, x8, x9, x10, x11, x12, x13, x14, x15, x16, x17, ho, hb, hp, hlo, e, hj, hj0, rfl⟩
    exact fin ks o W' _ _ _ _ _ _ _ _ _ _ _ ho hb hp fun k hk => by have := hlo k hk; omega

theorem sc_law : FnScope ["_law_script", "_law_state_here", "_law_operations_here", "_law_signature_here", "_law_theories", "_law_books", "_law_counts", "_law_k", "_law_which", "_law_theory", "_law_book", "_law_left", "_law_right", "_law_due", "_law_number_here", "_law_entry", "_law_told_here", "_law_result"] ["_law_script"] (defScope s_law) := ⟨rfl, rfl, rfl, by decide +kernel, rfl, by decide +kernel, by decide +kernel⟩
theorem ok_law {P : Program} {w : World} {K : PySem.W.Frag} {mg : Str → Option Value} {base : Heap} {k : Nat}  {f : Addr} {fd : FuncData} (F : FunD K "law" "law" (defArgs s_law) (defBody s_law) (defScope s_law) [] [] f fd) {j : Nat} (hj : j + 1 ≤ k) (g__law_state : Fk P w K mg base CX0 k "_law_state" ["_law_script"] (sp__law_state)) (g__law_operations : Fk P w K mg base CX0 k "_law_operations" ["_law_state_here"] (sp__law_operations)) (g__law_signature : Fk P w K mg base CX0 k "_law_signature" ["_law_operations_here"] (sp__law_signature)) (j_Theory : FkM P w K mg base CX0 j (He.ma K (He.ga K "Theory") "__init__") ["self", "signature"] (sp_Theory___init__)) (mk_Theory : Mk K (He.ga K "Theory") (He.ma K (He.ga K "Theory") "__init__")) (gl_Theory : mg "Theory" = some (.ref (He.ga K "Theory"))) (n_Signature_declare_3 : FkN P w K mg base (L2.CX P w) k (He.ma K (He.ga K "Signature") "declare") ["self", "name", "arity", "commutative"] 3 [] [.p 0, .p 1, .p 2, .m 0] [(.bl false : V)] (sp_Signature_declare)) (m_Signature_declare : Meth K (He.ga K "Signature") "declare" (He.ma K (He.ga K "Signature") "declare")) (k_Signature : Cls K (He.ga K "Signature")) (g__law_draw : Fk P w K mg base CX0 k "_law_draw" ["_law_state_here", "_law_many"] (sp__law_draw)) (z_range : mg "range" = none) (g__law_equation : Fk P w K mg base CX0 k "_law_equation" ["_law_state_here", "_law_operations_here"] (sp__law_equation)) (g__law_told : Fk P w K mg base CX0 k "_law_told" ["_law_theory", "_law_left", "_law_right"] (sp__law_told)) (z_int : mg "int" = none) (g__law_drop : Fk P w K mg base CX0 k "_law_drop" ["_law_theory", "_law_number_here"] (sp__law_drop)) (z_len : mg "len" = none) (z_repr : mg "repr" = none) (hmod : ModK K) (g__law_missing : Fk P w K mg base CX0 k "_law_missing" ["_law_theory", "_law_number_here"] (sp__law_missing)) (g__law_agrees : Fk P w K mg base CX0 k "_law_agrees" ["_law_theory", "_law_book"] (sp__law_agrees)) : FnG P w K mg base CX0 (k + 1) f fd ["_law_script"] (liftSp K (spLawD)) := by
  have sc := sc_law
  exact okL F sc len_law fun cdv A outer s H E G f hr hgd => ⟨_, a_law ,
    dss_cons (ds_set (i := 1) sc.nd rfl (.inl rfl) (de_fn g__law_state hr hgd (da_cons (dv 0) (da_nil)))) (dss_cons (ds_set (i := 2) sc.nd rfl (.inl rfl) (de_fn g__law_operations hr hgd (da_cons (dv 1) (da_nil)))) (dss_cons (ds_set (i := 3) sc.nd rfl (.inl rfl) (de_fn g__law_signature hr hgd (da_cons (dv 2) (da_nil)))) (dss_cons (ds_set (i := 4) sc.nd rfl (.inl rfl) (de_lst false (da_cons (de_makeK K (E := fun _ => E0) (fun _ => passA0) liftS_none mk_Theory j_Theory gl_Theory (hr.mono hj) hgd (da_cons (dv 3) (da_nil))) (da_cons (de_makeK K (E := fun _ => E0) (fun _ => passA0) liftS_none mk_Theory j_Theory gl_Theory (hr.mono hj) hgd (da_cons (dv 3) (da_nil))) (da_nil))))) (dss_cons (ds_expr (de_methNK (n := 2) (ks := []) (src := [.p 0, .p 1, .p 2, .m 0]) (ms := [(.bl false : V)]) (md := [(.bl false : D)]) K (E := fun _ => E0) passNo liftS_none k_Signature m_Signature_declare n_Signature_declare_3 (fun _ => ⟨_, _, rfl, rfl, rfl⟩) hr hgd (dv 3) (da_cons (de_str) (da_cons (de_int) (da_nil))) (dk_nil))) (dss_cons (ds_set (i := 5) sc.nd rfl (.inl rfl) (de_lst true (da_cons (de_lst true (da_nil)) (da_cons (de_lst true (da_nil)) (da_nil))))) (dss_cons (ds_set (i := 6) sc.nd rfl (.inl rfl) (de_lst true (da_cons (de_int) (da_cons (de_int) (da_nil))))) (dss_cons (ds_for PassesOwn.never rfl (di_range1 (by rfl) z_range (da_cons (de_op (op_addA) sr_add (de_int) (de_fn g__law_draw hr hgd (da_cons (dv 1) (da_cons (de_int) (da_nil))))) (da_nil))) (dg_name (i := 7) sc.nd rfl (.inl rfl)) (dss_cons (ds_set (i := 8) sc.nd rfl (.inl rfl) (de_op op_fdiv sr_iC (de_fn g__law_draw hr hgd (da_cons (dv 1) (da_cons (de_int) (da_nil)))) (de_int))) (dss_cons (ds_set (i := 9) sc.nd rfl (.inl rfl) (de_ix (ix_all (hu_of hr)) sr_ix (dv 4) (dv 8))) (dss_cons (ds_set (i := 10) sc.nd rfl (.inl rfl) (de_ix (ix_all (hu_of hr)) sr_ix (dv 5) (dv 8))) (dss_cons (ds_if (dt_cmp (op_gt) sr_b0 (de_fn g__law_draw hr hgd (da_cons (dv 1) (da_cons (de_int) (da_nil)))) (de_int) (nomark _)) (dss_cons (ds_asg (de_fn g__law_equation hr hgd (da_cons (dv 1) (da_cons (dv 2) (da_nil)))) (dg_tup rfl (dgs_cons (dg_name (i := 11) sc.nd rfl (.inl rfl)) (dgs_cons (dg_name (i := 12) sc.nd rfl (.inl rfl)) (dgs_cons (dg_name (i := 13) sc.nd rfl (.inl rfl)) (dgs_nil)))))) (dss_cons (ds_if (dt_cmp (op_isA) sr_is (dv 13) (de_non) (nomark _)) (dss_cons (ds_set (i := 13) sc.nd rfl (.inl rfl) (de_tup (da_cons (de_str) (da_cons (de_ix (ix_all (hu_of hr)) sr_ix (dv 6) (dv 8)) (da_nil))))) (dss_cons (ds_expr (de_append (dv 10) (da_cons (de_tup (da_cons (de_ix (ix_all (hu_of hr)) sr_ix (dv 6) (dv 8)) (da_cons (dv 11) (da_cons (dv 12) (da_nil))))) (da_nil)))) (dss_one (ds_asg (de_op (op_addA) sr_add (de_ix (ix_all (hu_of hr)) sr_ix (dv 6) (dv 8)) (de_int)) (dg_sub (dv 6) (dv 8) (set_all (hu_of hr)) set_sim))))) (dss_nil)) (dss_one (ds_if (dt_cmp (op_neP (hu151 hr)) sr_ne (de_fn g__law_told hr hgd (da_cons (dv 9) (da_cons (dv 11) (da_cons (dv 12) (da_nil))))) (dv 13) (nomark _)) (dss_one (ds_ret (de_bl))) (dss_nil))))) (dss_cons (ds_set (i := 14) sc.nd rfl (.inr rfl) (de_op op_sub sr_i0 (de_fn g__law_draw hr hgd (da_cons (dv 1) (da_cons (de_op (op_addA) sr_add (de_ix (ix_all (hu_of hr)) sr_ix (dv 6) (dv 8)) (de_int)) (da_nil)))) (de_callTy call_intA sc_int (by rfl) z_int (by decide +kernel) (da_cons (de_cmp (op_eqP (hu151 hr)) sr_eq (de_fn g__law_draw hr hgd (da_cons (dv 1) (da_cons (de_int) (da_nil)))) (de_int) (nomark _)) (da_nil))))) (dss_cons (ds_setLc false (i := 13) rfl sc.nd rfl rfl (sw_true rfl rfl rfl (by decide +kernel)) (di_seq (dv 10)) (blkOk_by (own := [("_law_entry", 15)]) (by kernel_rfl)) (dc_of (fun _ _ _ _ _ => dg_name (i := 15) sc.nd rfl (.inl rfl)) (fun _ _ _ _ _ => dts_one (dt_cmp (opK (fun K => rEqP K false) K (op_eqP (hu151 hr))) sr_eq (de_ix (ixK K (ix_all (hu_of hr))) sr_ix (dv 15) (de_int)) (dv 14) (nomark _))) (fun _ _ _ _ _ => dv 15)) wipe_name) (dss_cons (ds_asg (de_fn g__law_drop hr hgd (da_cons (dv 9) (da_cons (dv 14) (da_nil)))) (dg_tup rfl (dgs_cons (dg_name (i := 16) sc.nd rfl (.inl rfl)) (dgs_cons (dg_name (i := 17) sc.nd rfl (.inl rfl)) (dgs_nil))))) (dss_cons (ds_if (DW.dt (dw_or (dt_cmp (op_neP (hu151 hr)) sr_ne (de_cmp (op_eqP (hu151 hr)) sr_eq (dv 16) (de_str) (nomark _)) (de_cmp (op_eqP (hu151 hr)) sr_eq (de_callB call_lenA sc_len (by rfl) z_len (by decide +kernel) (da_cons (dv 13) (da_nil))) (de_int) (nomark _)) (nomark _)) (dw_or1 (dt_cmp (op_isB) sr_isB (dv 17) (de_bl) (nomark _))))) (dss_one (ds_ret (de_bl))) (dss_nil)) (dss_cons (ds_if (DW.dt (dw_and (dt_cmp (op_eqP (hu151 hr)) sr_eq (de_callB call_lenA sc_len (by rfl) z_len (by decide +kernel) (da_cons (dv 13) (da_nil))) (de_int) (nomark _)) (dw_and1 (dt_cmp (op_neP (hu151 hr)) sr_ne (de_callB (call_reprX hgd (hu152 hr)) (sc_reprX hmod) (by rfl) z_repr (by decide +kernel) (da_cons (dv 17) (da_nil))) (de_callB (call_reprX hgd (hu152 hr)) (sc_reprX hmod) (by rfl) z_repr (by decide +kernel) (da_cons (de_tup (da_cons (de_ix (ix_all (hu_of hr)) sr_ix (de_ix (ix_all (hu_of hr)) sr_ix (dv 13) (de_int)) (de_int)) (da_cons (de_ix (ix_all (hu_of hr)) sr_ix (de_ix (ix_all (hu_of hr)) sr_ix (dv 13) (de_int)) (de_int)) (da_nil)))) (da_nil))) (nomark _))))) (dss_one (ds_ret (de_bl))) (dss_nil)) (dss_cons (ds_asg (de_lc true rfl sc.nd (di_seq (dv 10)) (blkOk_by (own := [("_law_entry", 15)]) (by kernel_rfl)) (dc_of (fun _ _ _ _ _ => dg_name (i := 15) sc.nd rfl (.inl rfl)) (fun _ _ _ _ _ => dts_one (dt_cmp (opK (fun K => rEqP K true) K (op_neP (hu151 hr))) sr_ne (de_ix (ixK K (ix_all (hu_of hr))) sr_ix (dv 15) (de_int)) (dv 14) (nomark _))) (fun _ _ _ _ _ => dv 15)) wipe_name) (dg_sub (dv 5) (dv 8) (set_all (hu_of hr)) set_sim)) (dss_one (ds_if (dt_not (dt_val (de_fn g__law_missing hr hgd (da_cons (dv 9) (da_cons (dv 14) (da_nil)))))) (dss_one (ds_ret (de_bl))) (dss_nil)))))))))) (dss_one (ds_if (dt_not (dt_val (de_fn g__law_agrees hr hgd (da_cons (dv 9) (da_cons (de_ix (ix_all (hu_of hr)) sr_ix (dv 5) (dv 8)) (da_nil)))))) (dss_one (ds_ret (de_bl))) (dss_nil)))))))) (dss_cons (ds_if (dt_cmp (op_neP (hu151 hr)) sr_ne (de_fn g__law_told hr hgd (da_cons (de_ix (ix_all (hu_of hr)) sr_ix (dv 4) (de_int)) (da_cons (de_tup (da_cons (de_str) (da_nil))) (da_cons (de_int) (da_nil))))) (de_tup (da_cons (de_str) (da_cons (de_str) (da_nil)))) (nomark _)) (dss_one (ds_ret (de_bl))) (dss_nil)) (dss_one (ds_ret (de_and (de_fn g__law_agrees hr hgd (da_cons (de_ix (ix_all (hu_of hr)) sr_ix (dv 4) (de_int)) (da_cons (de_ix (ix_all (hu_of hr)) sr_ix (dv 5) (de_int)) (da_nil)))) (de_one (de_fn g__law_agrees hr hgd (da_cons (de_ix (ix_all (hu_of hr)) sr_ix (dv 4) (de_int)) (da_cons (de_ix (ix_all (hu_of hr)) sr_ix (dv 5) (de_int)) (da_nil)))))))))))))))),
    fun ds W QD ED h => rd_law h⟩
theorem facts {P : Program} {w : World} {K : PySem.W.Frag} {h : Heap} {mg : Str → Option Value} {f : Addr} (hPf : P.main.file = PRG.main.file) (hPs : (P.main.scope.names.lookup ("super" : Str)).isSome = false) (X : K.In h) (G : h.Ns mainGlobals mg) (hfa : mg ("law" : Str) = some (.ref f)) (cy : SaysY faL fnL xsL ssL K) :
    ∃ fd : FuncData, (∀ (s : Shared) (v : Value), BindsTo s fd ⟨[v], []⟩ [("_law_script", v)]) ∧ ∀ base : Heap, K.In base → base.Ns mainGlobals mg → FnG P w K mg base CX0 147 f fd ["_law_script"] (liftSp K spLawD) := by
  have c := cy.to
  have z_isinstance : mg "isinstance" = none := He.free_ok X G (c.d.fact 41 (f := .free "isinstance") rfl)
  have z_int : mg "int" = none := He.free_ok X G (c.d.fact 40 (f := .free "int") rfl)
  have z_max : mg "max" = none := He.free_ok X G (c.d.fact 45 (f := .free "max") rfl)
  have c_MAX_DEPTH : ∃ t, mg "MAX_DEPTH" = some (.int 30 t) := He.int_ok X G (c.d.fact 53 (f := .int "MAX_DEPTH" 30) rfl)
  have c_MAX_SIZE : ∃ t, mg "MAX_SIZE" = some (.int 400 t) := He.int_ok X G (c.d.fact 52 (f := .int "MAX_SIZE" 400) rfl)
  have ex_TooLarge : ExcK K mg "TooLarge" := ⟨(He.exc_ok (c.d.fact 58 (f := .exc "TooLarge") rfl)).1, (He.exc_ok (c.d.fact 58 (f := .exc "TooLarge") rfl)).2.1, (He.exc_ok (c.d.fact 58 (f := .exc "TooLarge") rfl)).2.2.1, (He.exc_ok (c.d.fact 58 (f := .exc "TooLarge") rfl)).2.2.2, He.glo_ok X G (c.d.fact 33 (f := .glo "TooLarge") rfl)⟩
  have k_AnswerBook : Cls K (He.ga K "AnswerBook") := He.cls_ok (c.d.fact 59 (f := .cls "AnswerBook") rfl)
  have a_AnswerBook_entries : NoAttr K (He.ga K "AnswerBook") "entries" := He.noat_ok (c.d.fact 60 (f := .noat "AnswerBook" "entries") rfl)
  have k_Signature : Cls K (He.ga K "Signature") := He.cls_ok (c.d.fact 61 (f := .cls "Signature") rfl)
  have a_Signature_arities : NoAttr K (He.ga K "Signature") "arities" := He.noat_ok (c.d.fact 62 (f := .noat "Signature" "arities") rfl)
  have su_UnknownName : SupF P K (He.ga K "UnknownName") "name" (defArgs s_UnknownName___init__) (defBody s_UnknownName___init__) (defScope s_UnknownName___init__) := lkSup_ok (d := su_UnknownName) (c.x 0 (x := lkSup PRG.main.file "UnknownName" "name") rfl) (cy.s 0 rfl) hPf hPs
  have gl_UnknownName : mg "UnknownName" = some (.ref (He.ga K "UnknownName")) := He.glo_ok X G (c.d.fact 28 (f := .glo "UnknownName") rfl)
  have z_super : mg "super" = none := He.free_ok X G (c.d.fact 50 (f := .free "super") rfl)
  have m_Signature_require : Meth K (He.ga K "Signature") "require" (He.ma K (He.ga K "Signature") "require") := He.meth_ok (c.d.fact 63 (f := .meth "Signature" "require") rfl)
  have z_len : mg "len" = none := He.free_ok X G (c.d.fact 43 (f := .free "len") rfl)
  have su_WrongArity : SupF P K (He.ga K "WrongArity") "name" (defArgs s_WrongArity___init__) (defBody s_WrongArity___init__) (defScope s_WrongArity___init__) := lkSup_ok (d := su_WrongArity) (c.x 1 (x := lkSup PRG.main.file "WrongArity" "name") rfl) (cy.s 1 rfl) hPf hPs
  have gl_WrongArity : mg "WrongArity" = some (.ref (He.ga K "WrongArity")) := He.glo_ok X G (c.d.fact 29 (f := .glo "WrongArity") rfl)
  have m_Signature_check_names : Meth K (He.ga K "Signature") "check_names" (He.ma K (He.ga K "Signature") "check_names") := He.meth_ok (c.d.fact 64 (f := .meth "Signature" "check_names") rfl)
  have kp_check_size : PySem.W.keepIn K (.ref (He.ga K "check_size")) = true := by obtain ⟨fd, F⟩ := c.d.def_ 4 (d := d_check_size) rfl; exact F.kp
  have gl_check_size : mg "check_size" = some (.ref (He.ga K "check_size")) := He.glo_ok X G (c.d.fact 4 (f := .glo "check_size") rfl)
  have m_Signature_check : Meth K (He.ga K "Signature") "check" (He.ma K (He.ga K "Signature") "check") := He.meth_ok (c.d.fact 65 (f := .meth "Signature" "check") rfl)
  have c_MAX_EQUATION_VARIABLE : ∃ t, mg "MAX_EQUATION_VARIABLE" = some (.int 9 t) := He.int_ok X G (c.d.fact 54 (f := .int "MAX_EQUATION_VARIABLE" 9) rfl)
  have a_Signature_order : NoAttr K (He.ga K "Signature") "order" := He.noat_ok (c.d.fact 66 (f := .noat "Signature" "order") rfl)
  have a_Signature_flags : NoAttr K (He.ga K "Signature") "flags" := He.noat_ok (c.d.fact 67 (f := .noat "Signature" "flags") rfl)
  have c_LETTERS : ∃ t, mg "LETTERS" = some (.str "abcdefghijklmnopqrstuvwxyz" t) := He.str_ok X G (c.d.fact 55 (f := .str "LETTERS" "abcdefghijklmnopqrstuvwxyz") rfl)
  have ex_InvalidName : ExcK K mg "InvalidName" := ⟨(He.exc_ok (c.d.fact 68 (f := .exc "InvalidName") rfl)).1, (He.exc_ok (c.d.fact 68 (f := .exc "InvalidName") rfl)).2.1, (He.exc_ok (c.d.fact 68 (f := .exc "InvalidName") rfl)).2.2.1, (He.exc_ok (c.d.fact 68 (f := .exc "InvalidName") rfl)).2.2.2, He.glo_ok X G (c.d.fact 30 (f := .glo "InvalidName") rfl)⟩
  have c_MAX_ARITY : ∃ t, mg "MAX_ARITY" = some (.int 3 t) := He.int_ok X G (c.d.fact 57 (f := .int "MAX_ARITY" 3) rfl)
  have ex_InvalidArity : ExcK K mg "InvalidArity" := ⟨(He.exc_ok (c.d.fact 69 (f := .exc "InvalidArity") rfl)).1, (He.exc_ok (c.d.fact 69 (f := .exc "InvalidArity") rfl)).2.1, (He.exc_ok (c.d.fact 69 (f := .exc "InvalidArity") rfl)).2.2.1, (He.exc_ok (c.d.fact 69 (f := .exc "InvalidArity") rfl)).2.2.2, He.glo_ok X G (c.d.fact 31 (f := .glo "InvalidArity") rfl)⟩
  have ex_Duplicate : ExcK K mg "Duplicate" := ⟨(He.exc_ok (c.d.fact 70 (f := .exc "Duplicate") rfl)).1, (He.exc_ok (c.d.fact 70 (f := .exc "Duplicate") rfl)).2.1, (He.exc_ok (c.d.fact 70 (f := .exc "Duplicate") rfl)).2.2.1, (He.exc_ok (c.d.fact 70 (f := .exc "Duplicate") rfl)).2.2.2, He.glo_ok X G (c.d.fact 32 (f := .glo "Duplicate") rfl)⟩
  have c_MAX_OPERATIONS : ∃ t, mg "MAX_OPERATIONS" = some (.int 12 t) := He.int_ok X G (c.d.fact 56 (f := .int "MAX_OPERATIONS" 12) rfl)
  have mk_Signature : Mk K (He.ga K "Signature") (He.ma K (He.ga K "Signature") "__init__") := He.mkr_ok (c.d.fact 71 (f := .mkr "Signature") rfl)
  have gl_Signature : mg "Signature" = some (.ref (He.ga K "Signature")) := He.glo_ok X G (c.d.fact 37 (f := .glo "Signature") rfl)
  have m_Signature_declare : Meth K (He.ga K "Signature") "declare" (He.ma K (He.ga K "Signature") "declare") := He.meth_ok (c.d.fact 72 (f := .meth "Signature" "declare") rfl)
  have m_Signature_copy : Meth K (He.ga K "Signature") "copy" (He.ma K (He.ga K "Signature") "copy") := He.meth_ok (c.d.fact 73 (f := .meth "Signature" "copy") rfl)
  have k_Theory : Cls K (He.ga K "Theory") := He.cls_ok (c.d.fact 74 (f := .cls "Theory") rfl)
  have a_Theory_signature : NoAttr K (He.ga K "Theory") "signature" := He.noat_ok (c.d.fact 75 (f := .noat "Theory" "signature") rfl)
  have a_Theory_equations : NoAttr K (He.ga K "Theory") "equations" := He.noat_ok (c.d.fact 76 (f := .noat "Theory" "equations") rfl)
  have a_Theory_next_number : NoAttr K (He.ga K "Theory") "next_number" := He.noat_ok (c.d.fact 77 (f := .noat "Theory" "next_number") rfl)
  have mk_AnswerBook : Mk K (He.ga K "AnswerBook") (He.ma K (He.ga K "AnswerBook") "__init__") := He.mkr_ok (c.d.fact 78 (f := .mkr "AnswerBook") rfl)
  have gl_AnswerBook : mg "AnswerBook" = some (.ref (He.ga K "AnswerBook")) := He.glo_ok X G (c.d.fact 35 (f := .glo "AnswerBook") rfl)
  have a_Theory_book : NoAttr K (He.ga K "Theory") "book" := He.noat_ok (c.d.fact 79 (f := .noat "Theory" "book") rfl)
  have ex_NotFound : ExcK K mg "NotFound" := ⟨(He.exc_ok (c.d.fact 80 (f := .exc "NotFound") rfl)).1, (He.exc_ok (c.d.fact 80 (f := .exc "NotFound") rfl)).2.1, (He.exc_ok (c.d.fact 80 (f := .exc "NotFound") rfl)).2.2.1, (He.exc_ok (c.d.fact 80 (f := .exc "NotFound") rfl)).2.2.2, He.glo_ok X G (c.d.fact 34 (f := .glo "NotFound") rfl)⟩
  have kp_check_equation : PySem.W.keepIn K (.ref (He.ga K "check_equation")) = true := by obtain ⟨fd, F⟩ := c.d.def_ 13 (d := d_check_equation) rfl; exact F.kp
  have gl_check_equation : mg "check_equation" = some (.ref (He.ga K "check_equation")) := He.glo_ok X G (c.d.fact 7 (f := .glo "check_equation") rfl)
  have m_AnswerBook_added : Meth K (He.ga K "AnswerBook") "added" (He.ma K (He.ga K "AnswerBook") "added") := He.meth_ok (c.d.fact 81 (f := .meth "AnswerBook" "added") rfl)
  have m_Theory_equation : Meth K (He.ga K "Theory") "equation" (He.ma K (He.ga K "Theory") "equation") := He.meth_ok (c.d.fact 82 (f := .meth "Theory" "equation") rfl)
  have m_AnswerBook_dropped : Meth K (He.ga K "AnswerBook") "dropped" (He.ma K (He.ga K "AnswerBook") "dropped") := He.meth_ok (c.d.fact 83 (f := .meth "AnswerBook" "dropped") rfl)
  have z_sorted : mg "sorted" = none := He.free_ok X G (c.d.fact 48 (f := .free "sorted") rfl)
  have z_list : mg "list" = none := He.free_ok X G (c.d.fact 44 (f := .free "list") rfl)
  have m_Theory_sources : Meth K (He.ga K "Theory") "sources" (He.ma K (He.ga K "Theory") "sources") := He.meth_ok (c.d.fact 84 (f := .meth "Theory" "sources") rfl)
  have z_range : mg "range" = none := He.free_ok X G (c.d.fact 46 (f := .free "range") rfl)
  have z_bool : mg "bool" = none := He.free_ok X G (c.d.fact 39 (f := .free "bool") rfl)
  have z_tuple : mg "tuple" = none := He.free_ok X G (c.d.fact 51 (f := .free "tuple") rfl)
  have z_str : mg "str" = none := He.free_ok X G (c.d.fact 49 (f := .free "str") rfl)
  have m_Theory_add : Meth K (He.ga K "Theory") "add" (He.ma K (He.ga K "Theory") "add") := He.meth_ok (c.d.fact 85 (f := .meth "Theory" "add") rfl)
  have xf_UnknownName : XfC K (He.ga K "UnknownName") := lkXf_ok (c.x 2 (x := lkXf "UnknownName") rfl)
  have exm_UnknownName_UnknownName : PySem.W.exmOne K (.ref (He.ga K "UnknownName")) (.ref (He.ga K "UnknownName")) = some true := He.exm_ok (c.d.fact 86 (f := .exm "UnknownName" "UnknownName" true) rfl)
  have exmF_TooLarge_UnknownName : PySem.W.exmOne K (.ref (He.ga K "TooLarge")) (.ref (He.ga K "UnknownName")) = some false := He.exm_ok (c.d.fact 87 (f := .exm "TooLarge" "UnknownName" false) rfl)
  have gl_TooLarge : mg "TooLarge" = some (.ref (He.ga K "TooLarge")) := He.glo_ok X G (c.d.fact 33 (f := .glo "TooLarge") rfl)
  have exm_TooLarge_TooLarge : PySem.W.exmOne K (.ref (He.ga K "TooLarge")) (.ref (He.ga K "TooLarge")) = some true := He.exm_ok (c.d.fact 88 (f := .exm "TooLarge" "TooLarge" true) rfl)
  have m_Theory_drop : Meth K (He.ga K "Theory") "drop" (He.ma K (He.ga K "Theory") "drop") := He.meth_ok (c.d.fact 89 (f := .meth "Theory" "drop") rfl)
  have exm_NotFound_NotFound : PySem.W.exmOne K (.ref (He.ga K "NotFound")) (.ref (He.ga K "NotFound")) = some true := He.exm_ok (c.d.fact 90 (f := .exm "NotFound" "NotFound" true) rfl)
  have gl_NotFound : mg "NotFound" = some (.ref (He.ga K "NotFound")) := He.glo_ok X G (c.d.fact 34 (f := .glo "NotFound") rfl)
  have xc_NotFound : ExcC K (He.ga K "NotFound") := lkExc_ok (c.x 3 (x := lkExc "NotFound") rfl)
  have ist_NotFound_ValueError : PySem.W.kitOne K (.ref (He.ga K "NotFound")) (.type "ValueError") = some true := lkIsT_ok (c.x 4 (x := lkIsT "NotFound" "ValueError" true) rfl)
  have z_ValueError : mg "ValueError" = none := He.free_ok X G (c.d.fact 38 (f := .free "ValueError") rfl)
  have m_Theory_given : Meth K (He.ga K "Theory") "given" (He.ma K (He.ga K "Theory") "given") := He.meth_ok (c.d.fact 91 (f := .meth "Theory" "given") rfl)
  have z_repr : mg "repr" = none := He.free_ok X G (c.d.fact 47 (f := .free "repr") rfl)
  have hmod : ModK K := lkMod_ok (c.x 5 (x := lkMod) rfl)
  have mk_Theory : Mk K (He.ga K "Theory") (He.ma K (He.ga K "Theory") "__init__") := He.mkr_ok (c.d.fact 92 (f := .mkr "Theory") rfl)
  have gl_Theory : mg "Theory" = some (.ref (He.ga K "Theory")) := He.glo_ok X G (c.d.fact 36 (f := .glo "Theory") rfl)
  have F_is_variable : Df K mg "is_variable" "is_variable" s_is_variable := by obtain ⟨fd, F⟩ := c.d.def_ 1 (d := d_is_variable) rfl; exact ⟨_, fd, F, He.glo_ok X G (c.d.fact 1 (f := .glo "is_variable") rfl)⟩
  have F_size : Df K mg "size" "size" s_size := by obtain ⟨fd, F⟩ := c.d.def_ 2 (d := d_size) rfl; exact ⟨_, fd, F, He.glo_ok X G (c.d.fact 2 (f := .glo "size") rfl)⟩
  have F_depth : Df K mg "depth" "depth" s_depth := by obtain ⟨fd, F⟩ := c.d.def_ 3 (d := d_depth) rfl; exact ⟨_, fd, F, He.glo_ok X G (c.d.fact 3 (f := .glo "depth") rfl)⟩
  have F_check_size : DfB K (He.ga K "check_size") "check_size" "check_size" s_check_size [] [] := by obtain ⟨fd, F⟩ := c.d.def_ 4 (d := d_check_size) rfl; exact ⟨fd, F⟩
  have F_symbols : Df K mg "symbols" "symbols" s_symbols := by obtain ⟨fd, F⟩ := c.d.def_ 5 (d := d_symbols) rfl; exact ⟨_, fd, F, He.glo_ok X G (c.d.fact 5 (f := .glo "symbols") rfl)⟩
  have F_variables : Df K mg "variables" "variables" s_variables := by obtain ⟨fd, F⟩ := c.d.def_ 6 (d := d_variables) rfl; exact ⟨_, fd, F, He.glo_ok X G (c.d.fact 6 (f := .glo "variables") rfl)⟩
  have F_AnswerBook___init__ : DfB K (He.ma K (He.ga K "AnswerBook") "__init__") "__init__" "AnswerBook.__init__" s_AnswerBook___init__ [] [] := by obtain ⟨fd, F⟩ := c.d.def_ 7 (d := d_AnswerBook___init__) rfl; exact ⟨fd, F⟩
  have F_AnswerBook_dropped : DfB K (He.ma K (He.ga K "AnswerBook") "dropped") "dropped" "AnswerBook.dropped" s_AnswerBook_dropped [] [] := by obtain ⟨fd, F⟩ := c.d.def_ 11 (d := d_AnswerBook_dropped) rfl; exact ⟨fd, F⟩
  have F_AnswerBook_added : DfB K (He.ma K (He.ga K "AnswerBook") "added") "added" "AnswerBook.added" s_AnswerBook_added [] [] := by obtain ⟨fd, F⟩ := c.d.def_ 12 (d := d_AnswerBook_added) rfl; exact ⟨fd, F⟩
  have F_Signature_require : DfB K (He.ma K (He.ga K "Signature") "require") "require" "Signature.require" s_Signature_require [] [] := by obtain ⟨fd, F⟩ := c.d.def_ 27 (d := d_Signature_require) rfl; exact ⟨fd, F⟩
  have F_Signature_check_names : DfB K (He.ma K (He.ga K "Signature") "check_names") "check_names" "Signature.check_names" s_Signature_check_names [] [] := by obtain ⟨fd, F⟩ := c.d.def_ 32 (d := d_Signature_check_names) rfl; exact ⟨fd, F⟩
  have F_Signature_check : DfB K (He.ma K (He.ga K "Signature") "check") "check" "Signature.check" s_Signature_check [] [] := by obtain ⟨fd, F⟩ := c.d.def_ 33 (d := d_Signature_check) rfl; exact ⟨fd, F⟩
  have F_check_equation : DfB K (He.ga K "check_equation") "check_equation" "check_equation" s_check_equation [] [] := by obtain ⟨fd, F⟩ := c.d.def_ 13 (d := d_check_equation) rfl; exact ⟨fd, F⟩
  have F_Signature___init__ : DfB K (He.ma K (He.ga K "Signature") "__init__") "__init__" "Signature.__init__" s_Signature___init__ [] [] := by obtain ⟨fd, F⟩ := c.d.def_ 24 (d := d_Signature___init__) rfl; exact ⟨fd, F⟩
  have F_is_name : Df K mg "is_name" "is_name" s_is_name := by obtain ⟨fd, F⟩ := c.d.def_ 23 (d := d_is_name) rfl; exact ⟨_, fd, F, He.glo_ok X G (c.d.fact 8 (f := .glo "is_name") rfl)⟩
  have F_Signature_declare : DfB K (He.ma K (He.ga K "Signature") "declare") "declare" "Signature.declare" s_Signature_declare [] [("commutative", .bl false)] := by obtain ⟨fd, F⟩ := c.d.def_ 25 (d := d_Signature_declare) rfl; exact ⟨fd, F⟩
  have F_Signature_copy : DfB K (He.ma K (He.ga K "Signature") "copy") "copy" "Signature.copy" s_Signature_copy [] [] := by obtain ⟨fd, F⟩ := c.d.def_ 26 (d := d_Signature_copy) rfl; exact ⟨fd, F⟩
  have F_Theory___init__ : DfB K (He.ma K (He.ga K "Theory") "__init__") "__init__" "Theory.__init__" s_Theory___init__ [] [] := by obtain ⟨fd, F⟩ := c.d.def_ 14 (d := d_Theory___init__) rfl; exact ⟨fd, F⟩
  have F_Theory_equation : DfB K (He.ma K (He.ga K "Theory") "equation") "equation" "Theory.equation" s_Theory_equation [] [] := by obtain ⟨fd, F⟩ := c.d.def_ 17 (d := d_Theory_equation) rfl; exact ⟨fd, F⟩
  have F_Theory_add : DfB K (He.ma K (He.ga K "Theory") "add") "add" "Theory.add" s_Theory_add [] [] := by obtain ⟨fd, F⟩ := c.d.def_ 15 (d := d_Theory_add) rfl; exact ⟨fd, F⟩
  have F_Theory_drop : DfB K (He.ma K (He.ga K "Theory") "drop") "drop" "Theory.drop" s_Theory_drop [] [] := by obtain ⟨fd, F⟩ := c.d.def_ 16 (d := d_Theory_drop) rfl; exact ⟨fd, F⟩
  have F_Theory_sources : DfB K (He.ma K (He.ga K "Theory") "sources") "sources" "Theory.sources" s_Theory_sources [] [] := by obtain ⟨fd, F⟩ := c.d.def_ 18 (d := d_Theory_sources) rfl; exact ⟨fd, F⟩
  have F_Theory_given : DfB K (He.ma K (He.ga K "Theory") "given") "given" "Theory.given" s_Theory_given [] [] := by obtain ⟨fd, F⟩ := c.d.def_ 19 (d := d_Theory_given) rfl; exact ⟨fd, F⟩
  have F__law_mix : Df K mg "_law_mix" "_law_mix" s__law_mix := by obtain ⟨fd, F⟩ := c.d.def_ 37 (d := d__law_mix) rfl; exact ⟨_, fd, F, He.glo_ok X G (c.d.fact 9 (f := .glo "_law_mix") rfl)⟩
  have F__law_number : Df K mg "_law_number" "_law_number" s__law_number := by obtain ⟨fd, F⟩ := c.d.def_ 38 (d := d__law_number) rfl; exact ⟨_, fd, F, He.glo_ok X G (c.d.fact 10 (f := .glo "_law_number") rfl)⟩
  have F__law_state : Df K mg "_law_state" "_law_state" s__law_state := by obtain ⟨fd, F⟩ := c.d.def_ 39 (d := d__law_state) rfl; exact ⟨_, fd, F, He.glo_ok X G (c.d.fact 11 (f := .glo "_law_state") rfl)⟩
  have F__law_draw : Df K mg "_law_draw" "_law_draw" s__law_draw := by obtain ⟨fd, F⟩ := c.d.def_ 40 (d := d__law_draw) rfl; exact ⟨_, fd, F, He.glo_ok X G (c.d.fact 12 (f := .glo "_law_draw") rfl)⟩
  have F__law_word : Df K mg "_law_word" "_law_word" s__law_word := by obtain ⟨fd, F⟩ := c.d.def_ 41 (d := d__law_word) rfl; exact ⟨_, fd, F, He.glo_ok X G (c.d.fact 13 (f := .glo "_law_word") rfl)⟩
  have F__law_names : Df K mg "_law_names" "_law_names" s__law_names := by obtain ⟨fd, F⟩ := c.d.def_ 42 (d := d__law_names) rfl; exact ⟨_, fd, F, He.glo_ok X G (c.d.fact 14 (f := .glo "_law_names") rfl)⟩
  have F__law_operations : Df K mg "_law_operations" "_law_operations" s__law_operations := by obtain ⟨fd, F⟩ := c.d.def_ 43 (d := d__law_operations) rfl; exact ⟨_, fd, F, He.glo_ok X G (c.d.fact 15 (f := .glo "_law_operations") rfl)⟩
  have F__law_leaf : Df K mg "_law_leaf" "_law_leaf" s__law_leaf := by obtain ⟨fd, F⟩ := c.d.def_ 44 (d := d__law_leaf) rfl; exact ⟨_, fd, F, He.glo_ok X G (c.d.fact 16 (f := .glo "_law_leaf") rfl)⟩
  have F__law_term : Df K mg "_law_term" "_law_term" s__law_term := by obtain ⟨fd, F⟩ := c.d.def_ 45 (d := d__law_term) rfl; exact ⟨_, fd, F, He.glo_ok X G (c.d.fact 17 (f := .glo "_law_term") rfl)⟩
  have F__law_same : Df K mg "_law_same" "_law_same" s__law_same := by obtain ⟨fd, F⟩ := c.d.def_ 46 (d := d__law_same) rfl; exact ⟨_, fd, F, He.glo_ok X G (c.d.fact 18 (f := .glo "_law_same") rfl)⟩
  have F__law_signature : Df K mg "_law_signature" "_law_signature" s__law_signature := by obtain ⟨fd, F⟩ := c.d.def_ 47 (d := d__law_signature) rfl; exact ⟨_, fd, F, He.glo_ok X G (c.d.fact 19 (f := .glo "_law_signature") rfl)⟩
  have F__law_told : Df K mg "_law_told" "_law_told" s__law_told := by obtain ⟨fd, F⟩ := c.d.def_ 49 (d := d__law_told) rfl; exact ⟨_, fd, F, He.glo_ok X G (c.d.fact 21 (f := .glo "_law_told") rfl)⟩
  have F__law_drop : Df K mg "_law_drop" "_law_drop" s__law_drop := by obtain ⟨fd, F⟩ := c.d.def_ 50 (d := d__law_drop) rfl; exact ⟨_, fd, F, He.glo_ok X G (c.d.fact 22 (f := .glo "_law_drop") rfl)⟩
  have F__law_missing : Df K mg "_law_missing" "_law_missing" s__law_missing := by obtain ⟨fd, F⟩ := c.d.def_ 51 (d := d__law_missing) rfl; exact ⟨_, fd, F, He.glo_ok X G (c.d.fact 23 (f := .glo "_law_missing") rfl)⟩
  have F__law_agrees : Df K mg "_law_agrees" "_law_agrees" s__law_agrees := by obtain ⟨fd, F⟩ := c.d.def_ 52 (d := d__law_agrees) rfl; exact ⟨_, fd, F, He.glo_ok X G (c.d.fact 24 (f := .glo "_law_agrees") rfl)⟩
  have F__law_equation : Df K mg "_law_equation" "_law_equation" s__law_equation := by obtain ⟨fd, F⟩ := c.d.def_ 53 (d := d__law_equation) rfl; exact ⟨_, fd, F, He.glo_ok X G (c.d.fact 25 (f := .glo "_law_equation") rfl)⟩
  obtain ⟨fd, F⟩ := c.d.def_ 54 (d := d_law) rfl
  have e := hfa.symm.trans (He.glo_ok X G (c.d.fact 26 (f := .glo "law") rfl))
  cases e
  have b := FunD.bindsA (ps := ["_law_script"]) F fun _ _ _ _ _ _ us hl => match us, hl with | [_], _ => rfl
  refine ⟨fd, fun s v => b s [v] rfl, fun base _ _ => ?_⟩
  have G_is_variable := ok_is_variable (P := P) (w := w) (mg := mg) (base := base) (k := 0) F_is_variable z_isinstance z_int
  have G_size := all_size (P := P) (w := w) (mg := mg) (base := base) (k := 1) F_size (G_is_variable.mono (by decide))
  have G_depth := all_depth (P := P) (w := w) (mg := mg) (base := base) (k := 1) F_depth (G_is_variable.mono (by decide)) z_max
  have G_check_size := ok_check_size (P := P) (w := w) (mg := mg) (base := base) (k := 141) F_check_size ((G_depth 140).mono (by decide)) c_MAX_DEPTH ((G_size 140).mono (by decide)) c_MAX_SIZE ex_TooLarge
  have G_symbols := all_symbols (P := P) (w := w) (mg := mg) (base := base) (k := 1) F_symbols (G_is_variable.mono (by decide))
  have G_variables := ok_variables (P := P) (w := w) (mg := mg) (base := base) (k := 141) F_variables ((G_symbols 140).mono (by decide)) (G_is_variable.mono (by decide))
  have G_AnswerBook___init__ := ok_AnswerBook___init__ (P := P) (w := w) (mg := mg) (base := base) (k := 0) F_AnswerBook___init__ k_AnswerBook a_AnswerBook_entries
  have G_AnswerBook_dropped := ok_AnswerBook_dropped (P := P) (w := w) (mg := mg) (base := base) (k := 0) F_AnswerBook_dropped k_AnswerBook a_AnswerBook_entries
  have G_AnswerBook_added := ok_AnswerBook_added (P := P) (w := w) (mg := mg) (base := base) (k := 0) F_AnswerBook_added k_AnswerBook a_AnswerBook_entries
  have G_Signature_require := ok_Signature_require (P := P) (w := w) (mg := mg) (base := base) (k := 0) F_Signature_require k_Signature a_Signature_arities su_UnknownName gl_UnknownName z_super
  have G_Signature_check_names := all_Signature_check_names (P := P) (w := w) (mg := mg) (base := base) (k := 1) F_Signature_check_names (G_is_variable.mono (by decide)) ((G_Signature_require.mono (by decide)).m (fun _ _ _ _ _ _ us hl => match us, hl with | [_, _], _ => rfl)) m_Signature_require k_Signature z_len a_Signature_arities su_WrongArity gl_WrongArity z_super m_Signature_check_names
  have G_Signature_check := ok_Signature_check (P := P) (w := w) (mg := mg) (base := base) (k := 142) F_Signature_check (((G_Signature_check_names 100).mono (by decide)).m (fun _ _ _ _ _ _ us hl => match us, hl with | [_, _], _ => rfl)) m_Signature_check_names k_Signature ((G_check_size.mono (by decide)).m (fun _ _ _ _ _ _ us hl => match us, hl with | [_], _ => rfl)) kp_check_size gl_check_size
  have G_check_equation := ok_check_equation (P := P) (w := w) (mg := mg) (base := base) (k := 143) F_check_equation ((G_Signature_check.mono (by decide)).m (fun _ _ _ _ _ _ us hl => match us, hl with | [_, _], _ => rfl)) m_Signature_check k_Signature (G_variables.mono (by decide)) c_MAX_EQUATION_VARIABLE ex_TooLarge
  have G_Signature___init__ := ok_Signature___init__ (P := P) (w := w) (mg := mg) (base := base) (k := 0) F_Signature___init__ k_Signature a_Signature_order a_Signature_arities a_Signature_flags
  have G_is_name := ok_is_name (P := P) (w := w) (mg := mg) (base := base) (k := 0) F_is_name c_LETTERS z_len
  have G_Signature_declare := ok_Signature_declare (P := P) (w := w) (mg := mg) (base := base) (k := 1) F_Signature_declare (G_is_name.mono (by decide)) ex_InvalidName c_MAX_ARITY ex_InvalidArity k_Signature a_Signature_arities ex_Duplicate z_len a_Signature_order c_MAX_OPERATIONS ex_TooLarge a_Signature_flags
  have G_Signature_copy := ok_Signature_copy (P := P) (w := w) (mg := mg) (base := base) (k := 2) (j := 1) F_Signature_copy (by decide) ((G_Signature___init__.mono (by decide)).m (fun _ _ _ _ _ _ us hl => match us, hl with | [_], _ => rfl)) mk_Signature gl_Signature k_Signature a_Signature_order ((G_Signature_declare.mono (by decide)).n0 3 ["commutative"] [] [.p 0, .p 1, .p 2, .k 0] (by simp) (by intro z hz; first | (simpa using hz) | (simp only [List.mem_cons, List.not_mem_nil, or_false] at hz ⊢; first | exact .inl hz | exact .inr hz | exact .inr (.inl hz))) (fun _ _ _ _ _ _ us mv ws h1 h2 h3 => match us, h1, mv, h2, ws, h3 with | [_, _, _], _, [], _, [_], _ => rfl)) m_Signature_declare a_Signature_arities a_Signature_flags
  have G_Theory___init__ := ok_Theory___init__ (P := P) (w := w) (mg := mg) (base := base) (k := 3) (j := 1) F_Theory___init__ (by decide) ((G_Signature_copy.mono (by decide)).m (fun _ _ _ _ _ _ us hl => match us, hl with | [_], _ => rfl)) m_Signature_copy k_Signature k_Theory a_Theory_signature a_Theory_equations a_Theory_next_number ((G_AnswerBook___init__.mono (by decide)).m (fun _ _ _ _ _ _ us hl => match us, hl with | [_], _ => rfl)) mk_AnswerBook gl_AnswerBook a_Theory_book
  have G_Theory_equation := ok_Theory_equation (P := P) (w := w) (mg := mg) (base := base) (k := 0) F_Theory_equation k_Theory a_Theory_equations ex_NotFound
  have G_Theory_add := ok_Theory_add (P := P) (w := w) (mg := mg) (base := base) (k := 144) F_Theory_add ((G_check_equation.mono (by decide)).m (fun _ _ _ _ _ _ us hl => match us, hl with | [_, _, _], _ => rfl)) kp_check_equation k_Theory a_Theory_signature gl_check_equation a_Theory_next_number a_Theory_equations ((G_AnswerBook_added.mono (by decide)).m (fun _ _ _ _ _ _ us hl => match us, hl with | [_, _, _], _ => rfl)) a_Theory_book m_AnswerBook_added k_AnswerBook
  have G_Theory_drop := ok_Theory_drop (P := P) (w := w) (mg := mg) (base := base) (k := 1) F_Theory_drop ((G_Theory_equation.mono (by decide)).m (fun _ _ _ _ _ _ us hl => match us, hl with | [_, _], _ => rfl)) m_Theory_equation k_Theory a_Theory_equations ((G_AnswerBook_dropped.mono (by decide)).m (fun _ _ _ _ _ _ us hl => match us, hl with | [_, _], _ => rfl)) a_Theory_book m_AnswerBook_dropped k_AnswerBook
  have G_Theory_sources := ok_Theory_sources (P := P) (w := w) (mg := mg) (base := base) (k := 0) F_Theory_sources z_sorted z_list k_Theory a_Theory_equations
  have G_Theory_given := ok_Theory_given (P := P) (w := w) (mg := mg) (base := base) (k := 1) F_Theory_given ((G_Theory_sources.mono (by decide)).m (fun _ _ _ _ _ _ us hl => match us, hl with | [_], _ => rfl)) m_Theory_sources k_Theory a_Theory_equations
  have G__law_mix := ok__law_mix (P := P) (w := w) (mg := mg) (base := base) (k := 0) F__law_mix z_int
  have G__law_number := ok__law_number (P := P) (w := w) (mg := mg) (base := base) (k := 1) F__law_number (G__law_mix.mono (by decide))
  have G__law_state := ok__law_state (P := P) (w := w) (mg := mg) (base := base) (k := 0) F__law_state z_len z_list
  have G__law_draw := ok__law_draw (P := P) (w := w) (mg := mg) (base := base) (k := 2) F__law_draw z_len (G__law_number.mono (by decide)) z_int
  have G__law_word := ok__law_word (P := P) (w := w) (mg := mg) (base := base) (k := 3) F__law_word z_range (G__law_draw.mono (by decide))
  have G__law_names := ok__law_names (P := P) (w := w) (mg := mg) (base := base) (k := 4) F__law_names (G__law_word.mono (by decide)) (G__law_draw.mono (by decide)) z_range z_int
  have G__law_operations := ok__law_operations (P := P) (w := w) (mg := mg) (base := base) (k := 5) F__law_operations (G__law_names.mono (by decide)) (G__law_draw.mono (by decide)) z_range
  have G__law_leaf := ok__law_leaf (P := P) (w := w) (mg := mg) (base := base) (k := 3) F__law_leaf (G__law_draw.mono (by decide))
  have G__law_term := all__law_term (P := P) (w := w) (mg := mg) (base := base) (k := 4) F__law_term (G__law_draw.mono (by decide)) (G__law_leaf.mono (by decide)) z_len z_range
  have G__law_same := all__law_same (P := P) (w := w) (mg := mg) (base := base) (k := 0) F__law_same z_isinstance z_bool z_int z_tuple z_len z_str z_range
  have G__law_signature := ok__law_signature (P := P) (w := w) (mg := mg) (base := base) (k := 2) (j := 1) F__law_signature (by decide) ((G_Signature___init__.mono (by decide)).m (fun _ _ _ _ _ _ us hl => match us, hl with | [_], _ => rfl)) mk_Signature gl_Signature ((G_Signature_declare.mono (by decide)).n0 3 [] [("commutative", .bl false)] [.p 0, .p 1, .p 2, .m 0] (by simp) (by intro z hz; first | (simpa using hz) | (simp only [List.mem_cons, List.not_mem_nil, or_false] at hz ⊢; first | exact .inl hz | exact .inr hz | exact .inr (.inl hz))) (fun _ _ _ _ _ _ us mv ws h1 h2 h3 => match us, h1, mv, h2, ws, h3 with | [_, _, _], _, [_], _, [], _ => ⟨_, _, _, _, _, _, rfl, rfl, rfl⟩)) m_Signature_declare k_Signature
  have G__law_told := ok__law_told (P := P) (w := w) (mg := mg) (base := base) (k := 145) F__law_told ((G_Theory_add.mono (by decide)).m (fun _ _ _ _ _ _ us hl => match us, hl with | [_, _, _], _ => rfl)) m_Theory_add k_Theory xf_UnknownName su_UnknownName gl_UnknownName exm_UnknownName_UnknownName exmF_TooLarge_UnknownName gl_TooLarge exm_TooLarge_TooLarge
  have G__law_drop := ok__law_drop (P := P) (w := w) (mg := mg) (base := base) (k := 2) F__law_drop ((G_Theory_drop.mono (by decide)).m (fun _ _ _ _ _ _ us hl => match us, hl with | [_, _], _ => rfl)) m_Theory_drop k_Theory exm_NotFound_NotFound gl_NotFound xc_NotFound ist_NotFound_ValueError z_ValueError z_isinstance
  have G__law_missing := ok__law_missing (P := P) (w := w) (mg := mg) (base := base) (k := 1) F__law_missing ((G_Theory_equation.mono (by decide)).m (fun _ _ _ _ _ _ us hl => match us, hl with | [_, _], _ => rfl)) m_Theory_equation k_Theory exm_NotFound_NotFound gl_NotFound
  have G__law_agrees := ok__law_agrees (P := P) (w := w) (mg := mg) (base := base) (k := 100) F__law_agrees ((G_Theory_sources.mono (by decide)).m (fun _ _ _ _ _ _ us hl => match us, hl with | [_], _ => rfl)) m_Theory_sources k_Theory z_isinstance z_list ((G_Theory_given.mono (by decide)).m (fun _ _ _ _ _ _ us hl => match us, hl with | [_], _ => rfl)) m_Theory_given z_len z_range ((G__law_same 100).mono (by decide)) z_repr ((G_Theory_equation.mono (by decide)).m (fun _ _ _ _ _ _ us hl => match us, hl with | [_, _], _ => rfl)) m_Theory_equation hmod
  have G__law_equation := ok__law_equation (P := P) (w := w) (mg := mg) (base := base) (k := 8) F__law_equation ((G__law_term 4).mono (by decide)) (G__law_draw.mono (by decide))
  exact ok_law (P := P) (w := w) (mg := mg) (base := base) (k := 146) (j := 4) F (by decide) (G__law_state.mono (by decide)) (G__law_operations.mono (by decide)) (G__law_signature.mono (by decide)) ((G_Theory___init__.mono (by decide)).m (fun _ _ _ _ _ _ us hl => match us, hl with | [_, _], _ => rfl)) mk_Theory gl_Theory ((G_Signature_declare.mono (by decide)).n0 3 [] [("commutative", .bl false)] [.p 0, .p 1, .p 2, .m 0] (by simp) (by intro z hz; first | (simpa using hz) | (simp only [List.mem_cons, List.not_mem_nil, or_false] at hz ⊢; first | exact .inl hz | exact .inr hz | exact .inr (.inl hz))) (fun _ _ _ _ _ _ us mv ws h1 h2 h3 => match us, h1, mv, h2, ws, h3 with | [_, _, _], _, [_], _, [], _ => ⟨_, _, _, _, _, _, rfl, rfl, rfl⟩)) m_Signature_declare k_Signature (G__law_draw.mono (by decide)) z_range (G__law_equation.mono (by decide)) (G__law_told.mono (by decide)) z_int (G__law_drop.mono (by decide)) z_len z_repr hmod (G__law_missing.mono (by decide)) (G__law_agrees.mono (by decide))
end DL
open PySem PySem.W PySem.Calls PyProof.Rows
theorem PySem.Challenge.cw_joinedends_k75_numbers_of_a_theory_holds : PySem.Challenge.rw_joinedends_k75_numbers_of_a_theory.Holds := by
  w_on; o_law
  refine HandSHeadRun.head_any (r := OpenLaw.row PySem.Challenge.rw_joinedends_k75_numbers_of_a_theory) (q := view (OpenLaw.row PySem.Challenge.rw_joinedends_k75_numbers_of_a_theory).prog [49]) (H := DL.hk) (ob := DL.ob) (M := 8000) (loose := DL.looseL) (d := HandSHeadRun.topDef (OpenLaw.row PySem.Challenge.rw_joinedends_k75_numbers_of_a_theory).prog 49) (kwd := []) DL.ob_eq
    (by kernel_rfl) (fun s => by kernel_rfl) DL.run (by kernel_rfl) (by kernel_rfl) (by kernel_rfl) (by rfl) (by first | assumption | decide +kernel) (by decide +kernel) ⟨rfl, rfl, rfl, rfl, rfl, by decide +kernel⟩ ?hw ?hc
  case hw => w_witness2
  case hc =>
    refine DL.walk_G (l := PySem.Challenge.rw_joinedends_k75_numbers_of_a_theory) (n := 63) (k := 147) (x := "_law_script") (CX := L2.CX0) rfl (by decide) (by kernel_rfl) ⟨rfl, by decide, by decide⟩ ?F (fun _ _ _ _ z => z)
    intro w mg fa h Y G hmg0
    obtain ⟨K, KX, c⟩ := Y
    have hmg : mg ("law" : PySem.Str) = some (.ref fa) := by
      have e : (HandSHeadRun.topDef (OpenLaw.row PySem.Challenge.rw_joinedends_k75_numbers_of_a_theory).prog 49).name = ("law" : PySem.Str) := by kernel_rfl
      rw [← e]
      exact hmg0
    obtain ⟨fd, hb, hF⟩ := DL.facts (P := (PySem.Challenge.rw_joinedends_k75_numbers_of_a_theory).prog) (w := w) (by kernel_rfl) (by kernel_rfl) KX G hmg c
    exact ⟨K, fd, DL.liftSp K DL.spLawD, KX, hb, fun H a ns hl hO hS => DL.law_end hl hO hS, hF⟩

