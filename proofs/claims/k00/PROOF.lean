import PyProof.Rows.All
import Wide.All
import OpenK.AllK
import Wide.FinOn
import HandS.ForMost
import KE.KStateDown
import HandS.Head0
import HandS.Head1
import HandS.Head2
import HandS.Head3
import HandS.HeadHook1
import HandS.HeadHook2
import KE.KExcSuper
import KE.KSuper
import KE.KExcInit
import KE.KIsAll
import KE.KTryMore
import HandS.Exc
import HandS.ExcInit
import HandS.ExcCtx
import HandS.Lambda
import HandS.Nested
import HandS.IsInst
import HandS.Star
import HandS.WordsExc
import HandS.Wide
import HandS.WideBits
import HandS.Gcd
import HandS.TupAny
import HandS.ExcOwn
import HandS.List
import HandS.HotCalls
import HandS.ExcIs
import HandS.ExcField
import KE.KLam
import KE.KNest
import HandS.More
import HandS.Comp
import HandS.Hot
import KE.KMathGC
import PyProof.Rows.StrOr
import HandS.Text
import HandS.Iter
import HandS.Steps
import HandS.RaiseMore
import HandS.FStr
import HandS.Style
import KE.KUnpack
import PyProof.EqAt
import PyProof.NeKinds
import PyProof.StrOps2
import PyProof.Rows.SeqMore
import PyProof.Rows.Digits
import KE.IntTextLaws
import KE.IntBitsLaws
import PyProof.Rows.StrFirst
import PyProof.StrLawsTight
import PyProof.Rows.StrItems
import HandS.ReplaceList
import PyProof.Rows.StrSplitAre
import HandS.Dict
import HandS.EndTab
import PySem.Challenge.RW_howevermany_k00_fractions_and_errors
set_option Elab.async false
set_option linter.all false
set_option maxRecDepth 100000
set_option maxHeartbeats 4000000
namespace TX
open PySem PySem.Spec PyProof.Rows L2
def topS (i : Nat) : Stmt := PySem.Challenge.pw_howevermany_k00_fractions_and_errors.main.body.getD i (.Pass ⟨0, 0, 0, 0⟩)
abbrev s_limit : Stmt := topS 26
abbrev N_limit : List Str := ["what"]
theorem sc_limit : FnScope N_limit ["what"] (defScope s_limit) := ⟨rfl, rfl, rfl, by decide +kernel, rfl, by decide +kernel, by decide +kernel⟩
abbrev s_is_number : Stmt := topS 29
abbrev N_is_number : List Str := ["value"]
theorem sc_is_number : FnScope N_is_number ["value"] (defScope s_is_number) := ⟨rfl, rfl, rfl, by decide +kernel, rfl, by decide +kernel, by decide +kernel⟩
abbrev s_is_fraction : Stmt := topS 30
abbrev N_is_fraction : List Str := ["value", "top", "bottom"]
theorem sc_is_fraction : FnScope N_is_fraction ["value"] (defScope s_is_fraction) := ⟨rfl, rfl, rfl, by decide +kernel, rfl, by decide +kernel, by decide +kernel⟩
abbrev s_check : Stmt := topS 31
abbrev N_check : List Str := ["values", "value"]
theorem sc_check : FnScope N_check ["values"] (defScope s_check) := ⟨rfl, rfl, rfl, by decide +kernel, rfl, by decide +kernel, by decide +kernel⟩
abbrev s_reduced : Stmt := topS 32
abbrev N_reduced : List Str := ["value", "top", "bottom", "common"]
theorem sc_reduced : FnScope N_reduced ["value"] (defScope s_reduced) := ⟨rfl, rfl, rfl, by decide +kernel, rfl, by decide +kernel, by decide +kernel⟩
abbrev s_is_count : Stmt := topS 33
abbrev N_is_count : List Str := ["text", "zero", "sign"]
theorem sc_is_count : FnScope N_is_count ["text", "zero"] (defScope s_is_count) := ⟨rfl, rfl, rfl, by decide +kernel, rfl, by decide +kernel, by decide +kernel⟩
abbrev s_fraction_or_none : Stmt := topS 34
abbrev N_fraction_or_none : List Str := ["text", "cut", "top", "bottom"]
theorem sc_fraction_or_none : FnScope N_fraction_or_none ["text"] (defScope s_fraction_or_none) := ⟨rfl, rfl, rfl, by decide +kernel, rfl, by decide +kernel, by decide +kernel⟩
abbrev s_read_fraction : Stmt := topS 35
abbrev N_read_fraction : List Str := ["text", "value"]
theorem sc_read_fraction : FnScope N_read_fraction ["text"] (defScope s_read_fraction) := ⟨rfl, rfl, rfl, by decide +kernel, rfl, by decide +kernel, by decide +kernel⟩
abbrev s_lowest : Stmt := topS 36
abbrev N_lowest : List Str := ["value"]
theorem sc_lowest : FnScope N_lowest ["value"] (defScope s_lowest) := ⟨rfl, rfl, rfl, by decide +kernel, rfl, by decide +kernel, by decide +kernel⟩
abbrev s_fraction_text : Stmt := topS 37
abbrev N_fraction_text : List Str := ["value", "top", "bottom", "bits"]
theorem sc_fraction_text : FnScope N_fraction_text ["value"] (defScope s_fraction_text) := ⟨rfl, rfl, rfl, by decide +kernel, rfl, by decide +kernel, by decide +kernel⟩
abbrev s_plus : Stmt := topS 38
abbrev N_plus : List Str := ["fractions", "top", "bottom", "value", "over", "under", "common"]
theorem sc_plus : FnScope N_plus ["fractions"] (defScope s_plus) := ⟨rfl, rfl, rfl, by decide +kernel, rfl, by decide +kernel, by decide +kernel⟩
abbrev s_times : Stmt := topS 39
abbrev N_times : List Str := ["fractions", "product", "value", "over", "under"]
theorem sc_times : FnScope N_times ["fractions"] (defScope s_times) := ⟨rfl, rfl, rfl, by decide +kernel, rfl, by decide +kernel, by decide +kernel⟩
abbrev s_quotient : Stmt := topS 40
abbrev N_quotient : List Str := ["one", "other", "top", "bottom", "over", "under"]
theorem sc_quotient : FnScope N_quotient ["one", "other"] (defScope s_quotient) := ⟨rfl, rfl, rfl, by decide +kernel, rfl, by decide +kernel, by decide +kernel⟩
abbrev s_apart : Stmt := topS 41
abbrev N_apart : List Str := ["one", "other", "top", "bottom", "over", "under"]
theorem sc_apart : FnScope N_apart ["one", "other"] (defScope s_apart) := ⟨rfl, rfl, rfl, by decide +kernel, rfl, by decide +kernel, by decide +kernel⟩
abbrev s_power : Stmt := topS 42
abbrev N_power : List Str := ["base", "n", "result", "square", "left"]
theorem sc_power : FnScope N_power ["base", "n"] (defScope s_power) := ⟨rfl, rfl, rfl, by decide +kernel, rfl, by decide +kernel, by decide +kernel⟩
abbrev s_raised : Stmt := topS 43
abbrev N_raised : List Str := ["one", "n", "top", "bottom"]
theorem sc_raised : FnScope N_raised ["one", "n"] (defScope s_raised) := ⟨rfl, rfl, rfl, by decide +kernel, rfl, by decide +kernel, by decide +kernel⟩
abbrev s_is_less : Stmt := topS 44
abbrev N_is_less : List Str := ["one", "other", "top", "bottom", "over", "under"]
theorem sc_is_less : FnScope N_is_less ["one", "other"] (defScope s_is_less) := ⟨rfl, rfl, rfl, by decide +kernel, rfl, by decide +kernel, by decide +kernel⟩
abbrev s_least_common : Stmt := topS 45
abbrev N_least_common : List Str := ["numbers", "least", "number"]
theorem sc_least_common : FnScope N_least_common ["numbers"] (defScope s_least_common) := ⟨rfl, rfl, rfl, by decide +kernel, rfl, by decide +kernel, by decide +kernel⟩
abbrev s_Lbox : Stmt := topS 47
abbrev N_Lbox : List Str := ["script", "mixed", "item"]
theorem sc_Lbox : FnScope N_Lbox ["script"] (defScope s_Lbox) := ⟨rfl, rfl, rfl, by decide +kernel, rfl, by decide +kernel, by decide +kernel⟩
abbrev s_Ldraw : Stmt := topS 48
abbrev N_Ldraw : List Str := ["box", "size", "item", "digit"]
theorem sc_Ldraw : FnScope N_Ldraw ["box", "size"] (defScope s_Ldraw) := ⟨rfl, rfl, rfl, by decide +kernel, rfl, by decide +kernel, by decide +kernel⟩
abbrev s_Lof : Stmt := topS 49
abbrev N_Lof : List Str := ["box", "menu"]
theorem sc_Lof : FnScope N_Lof ["box", "menu"] (defScope s_Lof) := ⟨rfl, rfl, rfl, by decide +kernel, rfl, by decide +kernel, by decide +kernel⟩
abbrev s_Llike : Stmt := topS 50
abbrev N_Llike : List Str := ["told", "due", "key", "k"]
theorem sc_Llike : FnScope N_Llike ["told", "due"] (defScope s_Llike) := ⟨rfl, rfl, rfl, by decide +kernel, rfl, by decide +kernel, by decide +kernel⟩
abbrev s_Lkin : Stmt := topS 51
abbrev N_Lkin : List Str := ["error", "near", "tag", "yes"]
theorem sc_Lkin : FnScope N_Lkin ["error"] (defScope s_Lkin) := ⟨rfl, rfl, rfl, by decide +kernel, rfl, by decide +kernel, by decide +kernel⟩
abbrev s_Labove : Stmt := topS 52
abbrev N_Labove : List Str := ["tag"]
theorem sc_Labove : FnScope N_Labove ["tag"] (defScope s_Labove) := ⟨rfl, rfl, rfl, by decide +kernel, rfl, by decide +kernel, by decide +kernel⟩
abbrev s_Lcaught : Stmt := topS 53
abbrev N_Lcaught : List Str := ["error", "tag", "fields"]
theorem sc_Lcaught : FnScope N_Lcaught ["error", "tag", "fields"] (defScope s_Lcaught) := ⟨rfl, rfl, rfl, by decide +kernel, rfl, by decide +kernel, by decide +kernel⟩
abbrev s_Llettered : Stmt := topS 54
abbrev N_Llettered : List Str := ["told", "c"]
theorem sc_Llettered : FnScope N_Llettered ["told"] (defScope s_Llettered) := ⟨rfl, rfl, rfl, by decide +kernel, rfl, by decide +kernel, by decide +kernel⟩
abbrev s_Ltried : Stmt := topS 55
abbrev N_Ltried : List Str := ["call", "e"]
theorem sc_Ltried : FnScope N_Ltried ["call"] (defScope s_Ltried) := ⟨rfl, rfl, rfl, by decide +kernel, rfl, by decide +kernel, by decide +kernel⟩
abbrev s_Lrefused : Stmt := topS 56
abbrev N_Lrefused : List Str := ["call", "due"]
theorem sc_Lrefused : FnScope N_Lrefused ["call", "due"] (defScope s_Lrefused) := ⟨rfl, rfl, rfl, by decide +kernel, rfl, by decide +kernel, by decide +kernel⟩
abbrev s_Lodd : Stmt := topS 57
abbrev N_Lodd : List Str := ["box", "menu"]
theorem sc_Lodd : FnScope N_Lodd ["box"] (defScope s_Lodd) := ⟨rfl, rfl, rfl, by decide +kernel, rfl, by decide +kernel, by decide +kernel⟩
abbrev s_Llow : Stmt := topS 58
abbrev N_Llow : List Str := ["top", "bottom", "high", "rest"]
theorem sc_Llow : FnScope N_Llow ["top", "bottom"] (defScope s_Llow) := ⟨rfl, rfl, rfl, by decide +kernel, rfl, by decide +kernel, by decide +kernel⟩
abbrev s_Ladded : Stmt := topS 59
abbrev N_Ladded : List Str := ["x", "y"]
theorem sc_Ladded : FnScope N_Ladded ["x", "y"] (defScope s_Ladded) := ⟨rfl, rfl, rfl, by decide +kernel, rfl, by decide +kernel, by decide +kernel⟩
abbrev s_Ltotal : Stmt := topS 60
abbrev N_Ltotal : List Str := ["menu", "made", "pair"]
theorem sc_Ltotal : FnScope N_Ltotal ["menu"] (defScope s_Ltotal) := ⟨rfl, rfl, rfl, by decide +kernel, rfl, by decide +kernel, by decide +kernel⟩
abbrev s_Lby : Stmt := topS 61
abbrev N_Lby : List Str := ["x", "y"]
theorem sc_Lby : FnScope N_Lby ["x", "y"] (defScope s_Lby) := ⟨rfl, rfl, rfl, by decide +kernel, rfl, by decide +kernel, by decide +kernel⟩
abbrev s_Lword : Stmt := topS 62
abbrev N_Lword : List Str := ["pair"]
theorem sc_Lword : FnScope N_Lword ["pair"] (defScope s_Lword) := ⟨rfl, rfl, rfl, by decide +kernel, rfl, by decide +kernel, by decide +kernel⟩
abbrev s_Ldigits : Stmt := topS 63
abbrev N_Ldigits : List Str := ["word", "most", "c"]
theorem sc_Ldigits : FnScope N_Ldigits ["word", "most"] (defScope s_Ldigits) := ⟨rfl, rfl, rfl, by decide +kernel, rfl, by decide +kernel, by decide +kernel⟩
abbrev s_Lread : Stmt := topS 64
abbrev N_Lread : List Str := ["word", "parts", "part"]
theorem sc_Lread : FnScope N_Lread ["word"] (defScope s_Lread) := ⟨rfl, rfl, rfl, by decide +kernel, rfl, by decide +kernel, by decide +kernel⟩
abbrev s_Lnumber : Stmt := topS 65
abbrev N_Lnumber : List Str := ["item"]
theorem sc_Lnumber : FnScope N_Lnumber ["item"] (defScope s_Lnumber) := ⟨rfl, rfl, rfl, by decide +kernel, rfl, by decide +kernel, by decide +kernel⟩
abbrev s_Lis_fraction : Stmt := topS 66
abbrev N_Lis_fraction : List Str := ["item"]
theorem sc_Lis_fraction : FnScope N_Lis_fraction ["item"] (defScope s_Lis_fraction) := ⟨rfl, rfl, rfl, by decide +kernel, rfl, by decide +kernel, by decide +kernel⟩
abbrev s_Lfixed : Stmt := topS 67
abbrev N_Lfixed : List Str := ["item"]
theorem sc_Lfixed : FnScope N_Lfixed ["item"] (defScope s_Lfixed) := ⟨rfl, rfl, rfl, by decide +kernel, rfl, by decide +kernel, by decide +kernel⟩
abbrev s_Lfraction : Stmt := topS 68
abbrev N_Lfraction : List Str := ["box", "code", "factor"]
theorem sc_Lfraction : FnScope N_Lfraction ["box"] (defScope s_Lfraction) := ⟨rfl, rfl, rfl, by decide +kernel, rfl, by decide +kernel, by decide +kernel⟩
abbrev s_Lless : Stmt := topS 69
abbrev N_Lless : List Str := ["x", "y"]
theorem sc_Lless : FnScope N_Lless ["x", "y"] (defScope s_Lless) := ⟨rfl, rfl, rfl, by decide +kernel, rfl, by decide +kernel, by decide +kernel⟩
abbrev s_Lgap : Stmt := topS 70
abbrev N_Lgap : List Str := ["x", "y"]
theorem sc_Lgap : FnScope N_Lgap ["x", "y"] (defScope s_Lgap) := ⟨rfl, rfl, rfl, by decide +kernel, rfl, by decide +kernel, by decide +kernel⟩
abbrev s_Lraised : Stmt := topS 71
abbrev N_Lraised : List Str := ["x", "size", "made", "k"]
theorem sc_Lraised : FnScope N_Lraised ["x", "size"] (defScope s_Lraised) := ⟨rfl, rfl, rfl, by decide +kernel, rfl, by decide +kernel, by decide +kernel⟩
abbrev s_Lsums : Stmt := topS 72
abbrev N_Lsums : List Str := ["box", "items", "fixed", "item", "a", "b", "c", "d", "f", "sums", "k", "due", "pair"]
theorem sc_Lsums : FnScope N_Lsums ["box", "items"] (defScope s_Lsums) := ⟨rfl, rfl, rfl, by decide +kernel, rfl, by decide +kernel, by decide +kernel⟩
abbrev s_Lpairs : Stmt := topS 73
abbrev N_Lpairs : List Str := ["box", "items", "a", "b", "x", "y", "size", "told"]
theorem sc_Lpairs : FnScope N_Lpairs ["box", "items"] (defScope s_Lpairs) := ⟨rfl, rfl, rfl, by decide +kernel, rfl, by decide +kernel, by decide +kernel⟩
abbrev s_Lcall : Stmt := topS 74
abbrev N_Lcall : List Str := ["which_one", "a", "b", "c"]
theorem sc_Lcall : FnScope N_Lcall ["which_one", "a", "b", "c"] (defScope s_Lcall) := ⟨rfl, rfl, rfl, by decide +kernel, rfl, by decide +kernel, by decide +kernel⟩
abbrev s_Lwrong : Stmt := topS 75
abbrev N_Lwrong : List Str := ["box", "a", "b", "c", "k", "which_one", "used", "bad", "item", "x", "y", "z", "due"]
theorem sc_Lwrong : FnScope N_Lwrong ["box"] (defScope s_Lwrong) := ⟨rfl, rfl, rfl, by decide +kernel, rfl, by decide +kernel, by decide +kernel⟩
abbrev s_Lfigures : Stmt := topS 76
abbrev N_Lfigures : List Str := ["box", "size", "made"]
theorem sc_Lfigures : FnScope N_Lfigures ["box", "size"] (defScope s_Lfigures) := ⟨rfl, rfl, rfl, by decide +kernel, rfl, by decide +kernel, by decide +kernel⟩
abbrev s_Lnear : Stmt := topS 77
abbrev N_Lnear : List Str := ["box", "code"]
theorem sc_Lnear : FnScope N_Lnear ["box"] (defScope s_Lnear) := ⟨rfl, rfl, rfl, by decide +kernel, rfl, by decide +kernel, by decide +kernel⟩
abbrev s_Lreads : Stmt := topS 78
abbrev N_Lreads : List Str := ["box", "turn", "tale", "due", "item"]
theorem sc_Lreads : FnScope N_Lreads ["box"] (defScope s_Lreads) := ⟨rfl, rfl, rfl, by decide +kernel, rfl, by decide +kernel, by decide +kernel⟩
abbrev s_Lcommon : Stmt := topS 79
abbrev N_Lcommon : List Str := ["box", "unit", "given", "k", "due", "item", "handed"]
theorem sc_Lcommon : FnScope N_Lcommon ["box"] (defScope s_Lcommon) := ⟨rfl, rfl, rfl, by decide +kernel, rfl, by decide +kernel, by decide +kernel⟩
abbrev s_Ldigits_bound : Stmt := topS 80
abbrev N_Ldigits_bound : List Str := ["box", "code", "wide", "small", "first_size", "last_size", "top", "bottom", "factor", "size"]
theorem sc_Ldigits_bound : FnScope N_Ldigits_bound ["box"] (defScope s_Ldigits_bound) := ⟨rfl, rfl, rfl, by decide +kernel, rfl, by decide +kernel, by decide +kernel⟩
abbrev s_Lkept : Stmt := topS 81
abbrev N_Lkept : List Str := ["box", "x", "y", "singles", "made", "item", "more", "last"]
theorem sc_Lkept : FnScope N_Lkept ["box"] (defScope s_Lkept) := ⟨rfl, rfl, rfl, by decide +kernel, rfl, by decide +kernel, by decide +kernel⟩
abbrev s_Lclassed : Stmt := topS 82
abbrev N_Lclassed : List Str := ["x", "y", "made", "tags", "k"]
theorem sc_Lclassed : FnScope N_Lclassed ["x", "y"] (defScope s_Lclassed) := ⟨rfl, rfl, rfl, by decide +kernel, rfl, by decide +kernel, by decide +kernel⟩
abbrev s_Lby_base : Stmt := topS 83
abbrev N_Lby_base : List Str := ["caught", "e"]
theorem sc_Lby_base : FnScope N_Lby_base [] (defScope s_Lby_base) := ⟨rfl, rfl, rfl, by decide +kernel, rfl, by decide +kernel, by decide +kernel⟩
abbrev s_law : Stmt := topS 84
abbrev N_law : List Str := ["script", "box", "items", "k", "turn"]
theorem sc_law : FnScope N_law ["script"] (defScope s_law) := ⟨rfl, rfl, rfl, by decide +kernel, rfl, by decide +kernel, by decide +kernel⟩
end TX

set_option Elab.async false
set_option linter.all false
set_option maxRecDepth 100000
set_option maxHeartbeats 4000000
/-! K0: the classes by number. -/
namespace K1
open PySem PySem.Spec PyProof.Rows L2 TX
/-- the own classes: name, parameters -/
def clT : List (Str × List Str) := [("BadName", ["value"]), ("BadFraction", ["value"]), ("BadNumber", ["value"]), ("BadGround", ["line", "why"]), ("BadBook", ["line", "why"]), ("BadRecipe", ["line", "why"]), ("BadLook", ["line", "why"]), ("BadTerm", ["line", "why"]), ("BadQuestion", ["at", "why"]), ("BadReading", ["sign"]),
  ("BadScript", ["line", "why"]), ("NotBare", ["name"]), ("NotOne", ["condition", "crowd"]), ("NotScorer", ["why"]), ("NoChance", ["what"]), ("Unlike", ["what"]), ("TooFew", ["kind"]), ("TooMany", ["what", "count"]), ("NoSuch", ["name"]), ("Ended", ["what"])]
/-- the __init__ of the i-th class -/
def iS (i : Nat) : Stmt := match topS (4 + i) with
  | .ClassDef _ _ _ b _ _ _ _ _ _ _ => b.getD 0 (.Pass ⟨0, 0, 0, 0⟩)
  | s => s
/-- the fields of the i-th class's exceptions, of data -/
def cnm (i : Nat) : Str := (clT.getD i ("", [])).1
def cps (i : Nat) : List Str := (clT.getD i ("", [])).2
/-- the classes of _law_kin -/
def kinN : List Str := clT.map (·.1) ++ [("ModelError" : Str), "Missing", "ValueError", "LookupError", "RuntimeError", "KeyError", "IndexError"]
/-- what the i-th class is under -/
def above (i : Nat) : List Str := if i = 18 then [cnm i, "Missing", "LookupError"] else if i = 19 then [cnm i, "RuntimeError"] else [cnm i, "ModelError", "ValueError"]
end K1

set_option Elab.async false
set_option linter.all false
set_option maxRecDepth 100000
set_option maxHeartbeats 1000000
/-! H2: what the head's run is to tell: facts of the written part, by tests that reckon. -/
namespace Hk
open PySem PySem.Spec PyProof.Rows L2 TX K1
open He (ga ma eqO eqO_ok ba frG frG_at frG_in growD)
/-! ### defs -/
def fdA (K : PySem.W.Frag) (f : Addr) : Option FuncData := match K.lookup f with
  | some ⟨_, _, .func fd, _⟩ => some fd
  | _ => none
/-- the code object of the def at f -/
def cdA (K : PySem.W.Frag) (f : Addr) : Addr := match K.lookup f with
  | some ⟨_, _, .func fd, _⟩ => (match fd.code with
    | .ref c => c
    | _ => 0)
  | _ => 0
/-- the cell that it captures -/
def ccA (K : PySem.W.Frag) (f : Addr) : Addr := match K.lookup f with
  | some ⟨_, _, .func fd, _⟩ => (match fd.closure with
    | [(_, c)] => c
    | _ => 0)
  | _ => 0
abbrev FV : Type := Option (Str × Str × Arguments × FuncBody × Scope × Addr × List Str × Value × Addr)
def fv (K : PySem.W.Frag) (f : Addr) : FV := match K.lookup f with
  | some ⟨_, _, .func fd, _⟩ => some (fd.name, fd.qualname, fd.params, fd.body, fd.scope, fd.globals, fd.closure.map (·.1), fd.defaults, fd.builtins)
  | _ => none
def fval (x qual : Str) (st : Stmt) (cl : List Str) : FV := some (x, qual, defArgs st, .stmts (defBody st), defScope st, mainGlobals, cl, .none, builtinsNs)
def cdOk (K : PySem.W.Frag) (f : Addr) (q : Str) : Bool := match K.lookup f with
  | some ⟨_, _, .func fd, _⟩ => (match fd.code with
    | .ref c => PySem.W.codeIn K (.ref c) q
    | _ => false)
  | _ => false
section
variable {K : PySem.W.Frag} {f : Addr} {x qual : Str} {st : Stmt}
theorem fun_of (e : fv K f = fval x qual st []) (c : cdOk K f qual = true) :
    ∃ oc od osl kV doc pm an ct, K.lookup f = some ⟨oc, od, .func (PySem.W.fnOf x qual (defArgs st) (defBody st) (defScope st) .none kV doc pm an (.ref (cdA K f)) ct), osl⟩ ∧ PySem.W.codeIn K (.ref (cdA K f)) qual = true := by
  unfold fv fval at e
  unfold cdOk at c
  unfold cdA
  cases q : K.lookup f with
  | none => rw [q] at c; cases c
  | some o =>
    obtain ⟨oc, od, dt, osl⟩ := o
    rw [q] at c e
    cases dt with
    | func fd =>
      obtain ⟨n1, n2, n3, n4, n5, n6, n7, n8, n9, n10, n11, n12, n13, n14, n15⟩ := fd
      simp only [Option.some.injEq, Prod.mk.injEq] at e
      obtain ⟨h1, h2, h3, h4, h5, h6, h7, h8, h9⟩ := e
      have h7 : n7 = [] := List.map_eq_nil_iff.mp h7
      subst h1 h2 h3 h4 h5 h6 h7 h8 h9
      cases n13 with
      | ref c' => exact ⟨oc, od, osl, n9, n10, n11, n12, n14, rfl, c⟩
      | _ => cases c
    | _ => cases c
theorem init_of (e : fv K f = fval x qual st ["__class__"]) (c : cdOk K f qual = true) :
    ∃ oc od osl kV doc pm an ct, K.lookup f = some ⟨oc, od, .func (PySem.W.ksFn x qual (defArgs st) (defBody st) (defScope st) .none kV doc pm an (.ref (cdA K f)) ct (ccA K f)), osl⟩ ∧ PySem.W.codeIn K (.ref (cdA K f)) qual = true := by
  unfold fv fval at e
  unfold cdOk at c
  unfold cdA ccA
  cases q : K.lookup f with
  | none => rw [q] at c; cases c
  | some o =>
    obtain ⟨oc, od, dt, osl⟩ := o
    rw [q] at c e
    cases dt with
    | func fd =>
      obtain ⟨n1, n2, n3, n4, n5, n6, n7, n8, n9, n10, n11, n12, n13, n14, n15⟩ := fd
      simp only [Option.some.injEq, Prod.mk.injEq] at e
      obtain ⟨h1, h2, h3, h4, h5, h6, h7, h8, h9⟩ := e
      have h7 : ∃ cc, n7 = [(("__class__" : Str), cc)] := by
        match n7, h7 with
        | [(a, cc)], h7 =>
          have : a = "__class__" := by simpa using h7
          exact ⟨cc, by rw [this]⟩
      obtain ⟨cc, h7⟩ := h7
      subst h1 h2 h3 h4 h5 h6 h7 h8 h9
      cases n13 with
      | ref c' => exact ⟨oc, od, osl, n9, n10, n11, n12, n14, rfl, c⟩
      | _ => cases c
    | _ => cases c
end
/-- the module's name x stands for a function that is kept -/
def gloB (K : PySem.W.Frag) (x : Str) : Bool := eqO (PySem.W.nsIn K mainGlobals x) (some (some (.ref (ga K x))))
def defB (K : PySem.W.Frag) (x : Str) : Bool := gloB K x && (PySem.W.keepIn K (.ref (ga K x)) && cdOk K (ga K x) x)
/-- a def, with its code object -/
structure FunC (K : PySem.W.Frag) (mg : Str → Option Value) (x : Str) (st : Stmt) : Prop where
  mg : mg x = some (.ref (ga K x))
  kp : PySem.W.keepIn K (.ref (ga K x)) = true
  ex : ∃ oc od osl kV doc pm an ct, K.lookup (ga K x) = some ⟨oc, od, .func (PySem.W.fnOf x x (defArgs st) (defBody st) (defScope st) .none kV doc pm an (.ref (cdA K (ga K x))) ct), osl⟩ ∧ PySem.W.codeIn K (.ref (cdA K (ga K x))) x = true
theorem funC_of {K : PySem.W.Frag} {h : Heap} {mg : Str → Option Value} (X : K.In h) (G : h.Ns mainGlobals mg) {x : Str} {st : Stmt} (c : defB K x = true) (e : fv K (ga K x) = fval x x st []) : FunC K mg x st := by
  obtain ⟨c1, c⟩ := ba c
  obtain ⟨c2, c3⟩ := ba c
  exact ⟨PySem.W.mg_of X G (eqO_ok c1), c2, fun_of e c3⟩
/-! ### classes -/
def baN (i : Nat) : String × String × String × List Value := if i = 18 then ("LookupError", "LookupError.__new__", "LookupError.__init__", [.type "LookupError", .type "Exception", .type "BaseException", .type "object"])
  else if i = 19 then ("RuntimeError", "RuntimeError.__new__", "RuntimeError.__init__", [.type "RuntimeError", .type "Exception", .type "BaseException", .type "object"])
  else ("ValueError", "ValueError.__new__", "ValueError.__init__", [.type "ValueError", .type "Exception", .type "BaseException", .type "object"])
def eqB (a b : Option Bool) : Bool := decide (a = b)
def eqV (a b : Option Value) : Bool := decide (a = b)
def clA (K : PySem.W.Frag) (i : Nat) : Addr := ga K (kinN.getD i "")
def initA (K : PySem.W.Frag) (i : Nat) : Addr := ma K (clA K i) "__init__"
def initQ (i : Nat) : Str := cnm i ++ ".__init__"
def cellB (K : PySem.W.Frag) (c C : Addr) : Bool := match K.lookup c with
  | some ⟨_, _, .cell (some (.ref D)), _⟩ => D == C
  | _ => false
def fileB (K : PySem.W.Frag) (c : Addr) (file : Str) : Bool := match K.lookup c with
  | some ⟨_, _, .fields vs, _⟩ => (match (vs[2]? : Option Value) with
    | some (.str g _) => file == g
    | _ => false)
  | _ => false
def clsB1 (K : PySem.W.Frag) (i : Nat) : List Bool :=
  let C := clA K i
  let f := initA K i
  [gloB K (cnm i), PySem.W.excInitIn K C (baN i).2.2.2 (baN i).2.1, PySem.W.excOver K C (baN i).2.2.2, eqO (PySem.W.findIn K (.ref C) "__init__") (some (some (.ref f))), PySem.W.isFn K (.ref f),
   eqO (PySem.W.findIn K (.ref C) "__setattr__") (some (some (.builtin "object.__setattr__"))), (("code" : Str) :: cps i).all fun g => eqO (PySem.W.takerIn K C g) (some none), PySem.W.hasDictIn K C, eqB (PySem.W.subIn K (.ref C) (.type (baN i).1)) (some true),
   eqB (PySem.W.mroIn K C (.ref C)) (some true), eqO (PySem.W.ks_superIn K C C "__init__") (some (some (.builtin (baN i).2.2.1))), cellB K (ccA K f) C, cdOk K f (initQ i), PySem.W.keepIn K (.ref C), eqB (PySem.W.subIn K (.ref C) (.type "BaseException")) (some true), eqV (PySem.W.typeIn K (.ref C)) (some (.type "type"))]
def clsB2 (K : PySem.W.Frag) (i : Nat) : List Bool :=
  let C := clA K i
  [eqO (PySem.W.findIn K (.ref C) "__getattribute__") (some (some (.builtin "BaseException.__getattribute__"))), eqO (PySem.W.findIn K (.ref C) "__getattr__") (some none), eqO (PySem.W.findIn K (.ref C) "__class__") (some (some (.builtin "object.__class__"))),
   eqO (PySem.W.specialIn K (.builtin "object.__class__") "__get__") (some (some (.builtin "getset_descriptor.__get__"))), eqB (PySem.W.takesIn K (.builtin "object.__class__")) (some true), eqB (PySem.W.mroIn K C (.type "object")) (some true),
   (("code" : Str) :: cps i).all fun g => eqO (PySem.W.findIn K (.ref C) g) (some none),
   (List.range 22).all fun j => eqB (PySem.W.kitOne K (.ref C) (.ref (clA K j))) (some (decide (kinN.getD j "" ∈ above i))),
   ["ValueError", "LookupError", "RuntimeError", "KeyError", "IndexError"].all fun T => eqB (PySem.W.kitOne K (.ref C) (.type T)) (some (decide (Str.ofString T ∈ above i))),
   [[1, 2], [3, 4, 5, 6, 7], [11, 18], [15], [17], [20]].all fun js => eqB (PySem.W.exmAny K (.ref C) (js.map fun j => .ref (clA K j))) (some (js.any fun j => decide (kinN.getD j "" ∈ above i)))]
/-! ### the module's names -/
def freeN : List Str := ["isinstance", "len", "int", "bool", "str", "tuple", "list", "dict", "range", "abs", "max", "all", "sorted", "repr", "ValueError", "LookupError", "RuntimeError", "KeyError", "IndexError", "super"]
def freeB (K : PySem.W.Frag) : List Bool := freeN.map fun x => eqO (PySem.W.nsIn K mainGlobals x) (some none)
def mathB (K : PySem.W.Frag) : List Bool := [eqO (PySem.W.nsIn K mainGlobals "gcd") (some (some (.builtin "math.gcd"))), eqO (PySem.W.nsIn K mainGlobals "lcm") (some (some (.builtin "math.lcm"))),
  (match PySem.W.nsIn K mainGlobals "MOST_DIGITS" with
    | some (some (.int j _)) => decide (j = 60)
    | _ => false), gloB K "BOUNDS", gloB K "ModelError", gloB K "Missing", !(ga K "BOUNDS" == sysModules),
  (match PySem.W.nsIn K (ga K "BOUNDS") "bits" with
    | some (some (.int j _)) => decide (j = 12000)
    | _ => false), eqO (PySem.W.nsIn K cStatics "thirdparty.any") (some none),
  (match K.lookup cStatics with
    | some ⟨_, _, .dict es _, _⟩ => es.toList.all fun e => (match e.key with
      | .str _ _ => true
      | _ => false) && !e.key.isStr "sys.int_max_str_digits"
    | _ => false)]
/-- the keys and hashes of BOUNDS -/
def bndV (K : PySem.W.Frag) : Option (List (Option Str × Int)) := match K.lookup (ga K "BOUNDS") with
  | some ⟨.type c, none, .dict es _, sl⟩ => (match decide (c = "dict") && sl.isEmpty with
    | true => some (es.toList.map fun e => ((match e.key with
      | .str x _ => some x
      | _ => none), e.hash))
    | false => none)
  | _ => none
def bndN : List Str := ["kinds", "marks", "ties", "signs", "crowds", "sorts", "folded", "worlds", "features", "values", "choice", "cases", "members", "lines", "roots", "times", "term", "written", "table", "row", "picture", "size", "draws", "contents", "verdict", "asked", "rows", "bits", "text"]
def bndW (w : World) : Option (List (Option Str × Int)) := some (bndN.map fun x => (some x, PyData.keyHash w.params x))
/-! ### tables of code objects -/
def ptA (K : PySem.W.Frag) (c : Addr) : Addr := match K.lookup c with
  | some ⟨_, _, .fields vs, _⟩ => (match (vs[11]? : Option Value) with
    | some (.ref P) => P
    | _ => 0)
  | _ => 0
def codeB (K : PySem.W.Frag) (c : Addr) : Bool := match K.lookup c with
  | some ⟨cl, _, .fields vs, _⟩ => decide (cl = .type "code") && (decide (vs[11]? = some (.ref (ptA K c))) && (decide (vs.getD 11 .none = .ref (ptA K c)) && ((match vs.getD 18 .none with
    | .str _ _ => true
    | _ => false) && ((match vs.getD 7 .none with
    | .int _ _ => true
    | _ => false) && ((match vs.getD 9 .none with
    | .bool _ => true
    | _ => false) && ((match vs.getD 10 .none with
    | .int _ _ => true
    | _ => false) && decide (c ≠ ptA K c)))))))
  | _ => false
theorem codeB_ok {K : PySem.W.Frag} {h : Heap} {c : Addr} (X : K.In h) (e : codeB K c = true) : PySem.W.CodeHd h c (ptA K c) := by
  unfold codeB at e
  cases q : K.lookup c with
  | none => rw [q] at e; cases e
  | some o =>
    obtain ⟨cl, od, dt, sl⟩ := o
    rw [q] at e
    cases dt with
    | fields vs =>
      simp only [Bool.and_eq_true, decide_eq_true_eq] at e
      obtain ⟨e1, e2, e3, e4, e5, e6, e7, e8⟩ := e
      cases h18 : vs.getD 18 .none with
      | str a b =>
        cases h7 : vs.getD 7 .none with
        | int a7 b7 =>
          cases h9 : vs.getD 9 .none with
          | bool a9 =>
            cases h10 : vs.getD 10 .none with
            | int a10 b10 => exact ⟨_, vs, a, b, a7, b7, a9, a10, b10, X _ _ q, e1, rfl, e2, e3, h18, h7, h9, h10, e8⟩
            | _ => rw [h10] at e7; cases e7
          | _ => rw [h9] at e6; cases e6
        | _ => rw [h7] at e5; cases e5
      | _ => rw [h18] at e4; cases e4
    | _ => cases e
def lamN : List Str := ["_law_pairs", "_law_wrong", "_law_reads", "_law_digits_bound"]
def lamT (K : PySem.W.Frag) : List (Addr × Addr) := lamN.map fun x => (cdA K (ga K x), ptA K (cdA K (ga K x)))
def isTab (o : Option Obj) : Bool := match o with
  | some ⟨c, none, .fields vs, sl⟩ => decide (c = .none) && (vs.isEmpty && sl.isEmpty)
  | _ => false
theorem isTab_ok {o : Option Obj} (h : isTab o = true) : o = some { cls := .none, data := .fields #[] } := by
  unfold isTab at h
  split at h
  · rename_i c vs sl
    simp only [Bool.and_eq_true, decide_eq_true_eq, Array.isEmpty_iff] at h
    obtain ⟨rfl, rfl, rfl⟩ := h
    rfl
  · cases h
def tabB (K : PySem.W.Frag) (g : Addr → Option Obj) : List Bool := (lamT K).map (fun p => codeB K p.1 && (isTab (g p.2) && (K.lookup p.2).isNone)) ++ [decide ((lamT K).map (·.2)).Nodup]
end Hk

set_option Elab.async false
set_option linter.all false
set_option maxRecDepth 100000
set_option maxHeartbeats 1000000
/-! H3: the Hook. -/
namespace Hk
open PySem PySem.Spec PyProof.Rows L2 TX K1
open He (ga ma eqO eqO_ok ba frG frG_at frG_in growD)
abbrev R : PySem.W.OpenRow := PySem.W.OpenLaw.row PySem.Challenge.rw_howevermany_k00_fractions_and_errors
def defs0 : List (Str × Stmt) := [("limit", s_limit), ("is_number", s_is_number), ("is_fraction", s_is_fraction), ("_check", s_check), ("_reduced", s_reduced), ("_is_count", s_is_count), ("fraction_or_none", s_fraction_or_none), ("read_fraction", s_read_fraction), ("lowest", s_lowest), ("fraction_text", s_fraction_text), ("plus", s_plus), ("times", s_times), ("quotient", s_quotient), ("apart", s_apart), ("_power", s_power), ("raised", s_raised), ("is_less", s_is_less), ("least_common", s_least_common), ("_law_box", s_Lbox), ("_law_draw", s_Ldraw)]
def defs1 : List (Str × Stmt) := [("_law_of", s_Lof), ("_law_like", s_Llike), ("_law_kin", s_Lkin), ("_law_above", s_Labove), ("_law_caught", s_Lcaught), ("_law_lettered", s_Llettered), ("_law_tried", s_Ltried), ("_law_refused", s_Lrefused), ("_law_odd", s_Lodd), ("_law_low", s_Llow), ("_law_added", s_Ladded), ("_law_total", s_Ltotal), ("_law_by", s_Lby), ("_law_word", s_Lword), ("_law_digits", s_Ldigits), ("_law_read", s_Lread), ("_law_number", s_Lnumber), ("_law_is_fraction", s_Lis_fraction), ("_law_fixed", s_Lfixed), ("_law_fraction", s_Lfraction)]
def defs2 : List (Str × Stmt) := [("_law_less", s_Lless), ("_law_gap", s_Lgap), ("_law_raised", s_Lraised), ("_law_sums", s_Lsums), ("_law_pairs", s_Lpairs), ("_law_call", s_Lcall), ("_law_wrong", s_Lwrong), ("_law_figures", s_Lfigures), ("_law_near", s_Lnear), ("_law_reads", s_Lreads), ("_law_common", s_Lcommon), ("_law_digits_bound", s_Ldigits_bound), ("_law_kept", s_Lkept), ("_law_classed", s_Lclassed), ("_law_by_base", s_Lby_base), ("law", s_law)]
def defs : List (Str × Stmt) := defs0 ++ defs1 ++ defs2
def ad0 : List Addr := [3, 2, 6, 4, 52, 65, 87, 108, 129, 150, 171, 192, 213, 234, 255, 276, 297, 318, 339, 360, 381, 402, 423, 444, 465, 486, 490, 498, 505, 512, 519, 526, 531, 538, 545, 552, 559, 566, 573, 580, 587, 594, 601, 608, 615, 622, 629, 636, 641, 646, 653, 660, 665, 672, 679, 686, 693, 700, 707, 714]
def ad1 : List Addr := [721, 726, 731, 738, 745, 752, 759, 766, 773, 780, 785, 792, 799, 804, 811, 818, 825, 830, 837, 842, 849, 856, 861, 16, 20, 22, 27, 33, 38, 0, 51, 64, 86, 107, 128, 149, 170, 191, 212, 233, 254, 275, 296, 317, 338, 359, 380, 401, 422, 443, 464, 485, 497, 504, 511, 518, 525, 530, 537, 544]
def ad2 : List Addr := [551, 558, 565, 572, 579, 586, 593, 600, 607, 614, 621, 628, 635, 640, 645, 652, 659, 664, 671, 678, 685, 692, 699, 706, 713, 720, 725, 730, 737, 744, 751, 758, 765, 772, 779, 784, 791, 798, 803, 810, 817, 824, 829, 836, 841, 848, 855, 860, 15, 21, 26, 32, 50, 53, 63, 66, 84, 85, 105, 106]
def ad3 : List Addr := [126, 127, 147, 148, 168, 169, 189, 190, 210, 211, 231, 232, 252, 253, 273, 274, 294, 295, 315, 316, 336, 337, 357, 358, 378, 379, 399, 400, 420, 421, 441, 442, 462, 463, 483, 484, 487, 492, 494, 495, 496, 499, 501, 502, 503, 506, 508, 509, 510, 513, 515, 516, 517, 520, 522, 523, 524, 527, 529, 532]
def ad4 : List Addr := [534, 535, 536, 539, 541, 542, 543, 546, 548, 549, 550, 553, 555, 556, 557, 560, 562, 563, 564, 567, 569, 570, 571, 574, 576, 577, 578, 581, 583, 584, 585, 588, 590, 591, 592, 595, 597, 598, 599, 602, 604, 605, 606, 609, 611, 612, 613, 616, 618, 619, 620, 623, 625, 626, 627, 630, 632, 633, 634, 637]
def ad5 : List Addr := [639, 642, 644, 647, 649, 650, 651, 654, 656, 657, 658, 661, 663, 666, 668, 669, 670, 673, 675, 676, 677, 680, 682, 683, 684, 687, 689, 690, 691, 694, 696, 697, 698, 701, 703, 704, 705, 708, 710, 711, 712, 715, 717, 718, 719, 722, 724, 727, 729, 732, 734, 735, 736, 739, 741, 742, 743, 746, 748, 749]
def ad6 : List Addr := [750, 753, 755, 756, 757, 760, 762, 763, 764, 767, 769, 770, 771, 774, 776, 777, 778, 781, 783, 786, 788, 789, 790, 793, 795, 796, 797, 800, 802, 805, 807, 808, 809, 812, 814, 815, 816, 819, 821, 822, 823, 826, 828, 831, 833, 834, 835, 838, 840, 843, 845, 846, 847, 850, 852, 853, 854, 857, 859, 17]
def ad7 : List Addr := [18, 19, 23, 24, 25, 28, 34, 35, 36, 83, 72, 104, 93, 125, 114, 146, 135, 167, 156, 188, 177, 209, 198, 230, 219, 251, 240, 272, 261, 293, 282, 314, 303, 335, 324, 356, 345, 377, 366, 398, 387, 419, 408, 440, 429, 461, 450, 482, 471]
/-- where the written part stands -/
def adL : List Addr := ad0 ++ (ad1 ++ (ad2 ++ (ad3 ++ (ad4 ++ (ad5 ++ (ad6 ++ (ad7)))))))
def kOf (g : Addr → Option Obj) : PySem.W.Frag := frG g adL
def chk1 (K : PySem.W.Frag) : List Bool := defs.map (fun p => defB K p.1)
def chk2 (K : PySem.W.Frag) : List Bool := (List.range 20).flatMap fun i => clsB1 K i
def chk3 (K : PySem.W.Frag) : List Bool := (List.range 20).flatMap fun i => clsB2 K i
def chk4 (K : PySem.W.Frag) : List Bool := freeB K ++ mathB K
def chk5 (K : PySem.W.Frag) (file : Str) : List Bool := (List.range 20).map fun i => fileB K (cdA K (initA K i)) file
def fvs (K : PySem.W.Frag) : List FV := defs.map (fun p => fv K (ga K p.1)) ++ (List.range 20).map fun i => fv K (initA K i)
def fvsW : List FV := defs.map (fun p => fval p.1 p.1 p.2 []) ++ (List.range 20).map fun i => fval "__init__" (initQ i) (iS i) ["__class__"]
def enc (l : List Bool) : Nat := ((l.zip (List.range l.length)).filter fun p => !p.1).foldl (fun a p => a * 1000 + (p.2 + 1)) 0
end Hk

set_option Elab.async false
set_option linter.all false
set_option maxRecDepth 100000
set_option maxHeartbeats 0
/-! H5: the head's run with its Hook. -/
namespace Hk
open PySem PySem.Spec PyProof.Rows L2 TX K1
open He (ga ma eqO eqO_ok ba frG frG_at frG_in growD)
def allB (K : PySem.W.Frag) (g : Addr → Option Obj) : Bool := (chk1 K ++ (chk2 K ++ (chk3 K ++ (chk4 K ++ (chk5 K R.prog.main.file ++ tabB K g))))).all id
abbrev Al : Type := Bool × List FV × Option (List (Option Str × Int))
def obsK (K : PySem.W.Frag) (g : Addr → Option Obj) : Al := (allB K g, fvs K, bndV K)
def obsG (g : Addr → Option Obj) : Al := obsK (kOf g) g
structure Says (K : PySem.W.Frag) (w : World) (h : Heap) : Prop where
  inn : K.In h
  c1 : (chk1 K).all id = true
  c2 : (chk2 K).all id = true
  c3 : (chk3 K).all id = true
  c4 : (chk4 K).all id = true
  c5 : (chk5 K R.prog.main.file).all id = true
  fv : fvs K = fvsW
  bnd : bndV K = bndW w
  cd : ∀ p ∈ lamT K, codeB K p.1 = true
  tab : ∀ p ∈ lamT K, h.get? p.2 = some { cls := .none, data := .fields #[] }
  nol : ∀ p ∈ lamT K, K.lookup p.2 = none
  nd : ((lamT K).map (·.2)).Nodup
theorem all_app {a b : List Bool} (h : (a ++ b).all id = true) : a.all id = true ∧ b.all id = true := by
  rw [List.all_append, Bool.and_eq_true] at h
  exact h
theorem says_of {w : World} {h : Heap} {g : Addr → Option Obj} (hg : ∀ a, g a = h.get? a) (e : obsG g = (true, fvsW, bndW w)) : ∃ K, Says K w h := by
  have eg : g = h.get? := funext hg
  subst eg
  refine ⟨kOf h.get?, ?_⟩
  have e1 : allB (kOf h.get?) h.get? = true := congrArg (fun z : Al => z.1) e
  have e2 : fvs (kOf h.get?) = fvsW := congrArg (fun z : Al => z.2.1) e
  have e3 : bndV (kOf h.get?) = bndW w := congrArg (fun z : Al => z.2.2) e
  unfold allB at e1
  obtain ⟨k1, e1⟩ := all_app e1
  obtain ⟨k2, e1⟩ := all_app e1
  obtain ⟨k3, e1⟩ := all_app e1
  obtain ⟨k4, e1⟩ := all_app e1
  obtain ⟨k5, e1⟩ := all_app e1
  unfold tabB at e1
  obtain ⟨k6, k7⟩ := all_app e1
  have k7 : decide ((lamT (kOf h.get?)).map (·.2)).Nodup = true := by simpa using k7
  have k6 : ∀ p ∈ lamT (kOf h.get?), (codeB (kOf h.get?) p.1 && (isTab (h.get? p.2) && ((kOf h.get?).lookup p.2).isNone)) = true := fun p hp => List.all_eq_true.mp k6 _ (List.mem_map.mpr ⟨p, hp, rfl⟩)
  refine ⟨frG_in, k1, k2, k3, k4, k5, e2, e3, fun p hp => (ba (k6 p hp)).1, fun p hp => isTab_ok (ba (ba (k6 p hp)).2).1, fun p hp => Option.isNone_iff_eq_none.mp (ba (ba (k6 p hp)).2).2, of_decide_eq_true k7⟩
def hk : PySem.W.Hook where
  α := Al
  obs := fun s => obsG s.heap.get?
  val := fun w => (true, fvsW, bndW w)
  says := fun w h => ∃ K : PySem.W.Frag, Says K w h
  of := fun w s e => says_of (fun _ => rfl) e
  keeps := fun w h h' ⟨K, c⟩ k => ⟨K, { c with inn := PySem.W.Frag.In.keeps c.inn k, tab := fun p hp => k _ _ (c.tab p hp) }⟩
def ob (s : PySem.W.SharedT) : Al := obsG (HandSHeadRun.getT s)
theorem ob_eq (s : PySem.W.SharedT) : ob s = hk.obs s.abs := by
  have e : HandSHeadRun.getT s = s.abs.heap.get? := funext (HandSHeadRun.getT_eq s)
  show obsG _ = obsG _
  rw [e]
def n0 : List PySem.Str := ["ModelError", "Missing", "BadName", "BadFraction", "BadNumber", "BadGround", "BadBook", "BadRecipe", "BadLook", "BadTerm", "BadQuestion", "BadReading", "BadScript", "NotBare", "NotOne", "NotScorer", "NoChance", "Unlike", "TooFew", "TooMany", "NoSuch", "Ended", "BOUNDS", "limit", "MOST_DIGITS", "is_number", "is_fraction", "_check"]
def n1 : List PySem.Str := ["_reduced", "_is_count", "fraction_or_none", "read_fraction", "lowest", "fraction_text", "plus", "times", "quotient", "apart", "_power", "raised", "is_less", "least_common", "_law_box", "_law_draw", "_law_of", "_law_like", "_law_kin", "_law_above", "_law_caught", "_law_lettered", "_law_tried", "_law_refused", "_law_odd", "_law_low", "_law_added", "_law_total", "_law_by", "_law_word"]
def n2 : List PySem.Str := ["_law_digits", "_law_read", "_law_number", "_law_is_fraction", "_law_fixed", "_law_fraction", "_law_less", "_law_gap", "_law_raised", "_law_sums", "_law_pairs", "_law_call", "_law_wrong", "_law_figures", "_law_near", "_law_reads", "_law_common", "_law_digits_bound", "_law_kept", "_law_classed", "_law_by_base"]
def names : List PySem.Str := n0 ++ n1 ++ n2
abbrev qv : Program := PySem.W.view R.prog [0, 84]
/-- the run, one answer of the world at a time; three looks at its end, each apart (less memory) -/
noncomputable def whole (w : World) : Option (Shared × PySem.W.SharedT) := HandSHeadRun.wholeF (fun p => HandSHeadRun.stepQ (HandSHeadRun.denQ HandSHeadRun.tabQ) p w) HandSHeadRun.fenceQ 9000 R.prog
def LookA (w : World) : Prop := (whole w).map (fun x => allB (kOf (HandSHeadRun.getT x.2)) (HandSHeadRun.getT x.2)) = some true
def LookB (w : World) : Prop := (whole w).map (fun x => (fvs (kOf (HandSHeadRun.getT x.2)), bndV (kOf (HandSHeadRun.getT x.2)))) = some (fvsW, bndW w)
theorem lookA_F (w : World) : LookA (w.withFollow "special-get-raises" false) := by
  unfold LookA whole
  kernel_rfl
theorem lookA_T (w : World) : LookA (w.withFollow "special-get-raises" true) := by
  unfold LookA whole
  kernel_rfl
theorem lookB_F (w : World) : LookB (w.withFollow "special-get-raises" false) := by
  unfold LookB whole
  kernel_rfl
theorem lookB_T (w : World) : LookB (w.withFollow "special-get-raises" true) := by
  unfold LookB whole
  kernel_rfl
theorem lookC_F (w : World) : HandSHeadRun.RunEqI R qv PySem.W.Hook.none (fun _ => ()) 9000 names (w.withFollow "special-get-raises" false) := by
  unfold HandSHeadRun.RunEqI
  kernel_rfl
theorem lookC_T (w : World) : HandSHeadRun.RunEqI R qv PySem.W.Hook.none (fun _ => ()) 9000 names (w.withFollow "special-get-raises" true) := by
  unfold HandSHeadRun.RunEqI
  kernel_rfl
theorem map_two {α β γ : Type} {o : Option α} {f : α → β} {g : α → γ} {b : β} {c : γ} (h1 : o.map f = some b) (h2 : o.map g = some c) : ∃ x, o = some x ∧ f x = b ∧ g x = c := by
  cases o with
  | none => cases h1
  | some x => exact ⟨x, rfl, Option.some.inj h1, Option.some.inj h2⟩
theorem run (w : World) : HandSHeadRun.RunEqI R qv hk ob 9000 names w := by
  have a : LookA w := PySem.W.byRow2 "special-get-raises" lookA_F lookA_T w
  have b : LookB w := PySem.W.byRow2 "special-get-raises" lookB_F lookB_T w
  have c : HandSHeadRun.RunEqI R qv PySem.W.Hook.none (fun _ => ()) 9000 names w := PySem.W.byRow2 "special-get-raises" lookC_F lookC_T w
  unfold LookA whole at a
  unfold LookB whole at b
  unfold HandSHeadRun.RunEqI at c ⊢
  obtain ⟨x, e, a1, b1⟩ := map_two a b
  rw [e] at c ⊢
  rw [Option.map_some] at c ⊢
  have c := Option.some.inj c
  obtain ⟨c1, c2⟩ := Prod.mk.inj c
  obtain ⟨c2, _⟩ := Prod.mk.inj c2
  refine congrArg some (Prod.ext c1 (Prod.ext c2 ?_))
  show obsG (HandSHeadRun.getT x.2) = (true, fvsW, bndW w)
  show (allB _ _, fvs _, bndV _) = _
  obtain ⟨b2, b3⟩ := Prod.mk.inj b1
  rw [a1, b2, b3]
end Hk

set_option Elab.async false
set_option linter.all false
set_option maxRecDepth 100000
set_option maxHeartbeats 4000000
/-! HM1: data behind values; the state of a def's body told by data alone; expressions by what they give. -/
namespace HM
open PySem PySem.Spec PyProof.Rows L2

/-! ### data -/
inductive Dt where
  | non | bl (b : Bool) | int (i : Int) | str (x : Str) | tup (l : List Dt) | lst (l : List Dt) | dic (ks : List Str) (l : List Dt) | raw (v : V) | exc (C : Addr) (ks : List Str) (l : List Dt) | cau (a dd C : Addr) (ks : List Str) (l : List Dt) | fn (f : Addr) (L : List (Addr × HO)) (l : List Dt) (vs : List V)

mutual
def Rep (K : PySem.W.Frag) (F : Hp) : Dt → V → Prop
  | .non, v => v = .non
  | .bl b, v => v = .bl b
  | .int i, v => v = .int i
  | .str x, v => v = .str x
  | .tup l, v => ∃ a vs, v = .ref a ∧ SqT K F a vs ∧ Reps K F l vs
  | .lst l, v => ∃ a vs, v = .ref a ∧ SqL K F a vs ∧ Reps K F l vs
  | .dic ks l, v => ∃ a vs, v = .ref a ∧ F a = some (.dK ((ks.map Sum.inr).zip vs)) ∧ ks.length = vs.length ∧ Reps K F l vs
  | .raw w, v => v = w
  | .exc C ks l, v => ∃ a d vs, v = .ref a ∧ F a = some (exo a C (some d)) ∧ F d = some (exd d (ks.zip vs)) ∧ ks.length = vs.length ∧ Reps K F l vs
  | .cau a dd _ ks l, v => v = .ref a ∧ ∃ vs, F dd = some (.xd (ks.zip vs)) ∧ ks.length = vs.length ∧ Reps K F l vs
  | .fn f L l vs, v => v = .ref f ∧ (∀ p ∈ L, F p.1 = some p.2) ∧ Reps K F l vs
def Reps (K : PySem.W.Frag) (F : Hp) : List Dt → List V → Prop
  | [], vs => vs = []
  | d :: l, vs => ∃ v r, vs = v :: r ∧ Rep K F d v ∧ Reps K F l r
end

def Sub (F F' : Hp) : Prop := ∀ a o, F a = some o → F' a = some o
theorem Sub.refl (F : Hp) : Sub F F := fun _ _ h => h
theorem Sub.trans {F G H : Hp} (a : Sub F G) (b : Sub G H) : Sub F H := fun x o h => b x o (a x o h)
theorem Sub.sqT {K : PySem.W.Frag} {F F' : Hp} (e : Sub F F') {a : Addr} {xs : List V} (h : SqT K F a xs) : SqT K F' a xs := by
  rcases h with (h | ⟨o, h⟩) | h
  · exact .inl (.inl (e _ _ h))
  · exact .inl (.inr ⟨o, e _ _ h⟩)
  · exact .inr h
theorem Sub.sqL {K : PySem.W.Frag} {F F' : Hp} (e : Sub F F') {a : Addr} {xs : List V} (h : SqL K F a xs) : SqL K F' a xs := by
  rcases h with (h | ⟨o, h⟩) | h
  · exact .inl (.inl (e _ _ h))
  · exact .inl (.inr ⟨o, e _ _ h⟩)
  · exact .inr h
section
variable {K : PySem.W.Frag} {F F' : Hp}
mutual
theorem Rep.mono (e : Sub F F') : ∀ (d : Dt) {v : V}, Rep K F d v → Rep K F' d v
  | .non, _, h => h
  | .bl _, _, h => h
  | .int _, _, h => h
  | .str _, _, h => h
  | .raw _, _, h => h
  | .tup l, v, h => by
    obtain ⟨a, vs, e1, e2, e3⟩ := h
    exact ⟨a, vs, e1, e.sqT e2, Reps.mono e l e3⟩
  | .lst l, v, h => by
    obtain ⟨a, vs, e1, e2, e3⟩ := h
    exact ⟨a, vs, e1, e.sqL e2, Reps.mono e l e3⟩
  | .dic ks l, v, h => by
    obtain ⟨a, vs, e1, e2, e3, e4⟩ := h
    exact ⟨a, vs, e1, e _ _ e2, e3, Reps.mono e l e4⟩
  | .exc C ks l, v, h => by
    obtain ⟨a, d, vs, e1, e2, e3, e4, e5⟩ := h
    exact ⟨a, d, vs, e1, e _ _ e2, e _ _ e3, e4, Reps.mono e l e5⟩
  | .cau a dd C ks l, v, h => by
    obtain ⟨e1, vs, e2, e3, e4⟩ := h
    exact ⟨e1, vs, e _ _ e2, e3, Reps.mono e l e4⟩
  | .fn f L l vs, v, h => by
    obtain ⟨e1, e2, e3⟩ := h
    exact ⟨e1, fun p hp => e _ _ (e2 p hp), Reps.mono e l e3⟩
theorem Reps.mono (e : Sub F F') : ∀ (l : List Dt) {vs : List V}, Reps K F l vs → Reps K F' l vs
  | [], _, h => h
  | d :: l, vs, h => by
    obtain ⟨v, r, e1, e2, e3⟩ := h
    exact ⟨v, r, e1, Rep.mono e d e2, Reps.mono e l e3⟩
end
theorem Reps.len : ∀ {l : List Dt} {vs : List V}, Reps K F l vs → vs.length = l.length
  | [], _, h => by
    have h : _ = [] := h
    rw [h]
    rfl
  | d :: l, vs, h => by
    obtain ⟨v, r, rfl, _, e3⟩ := h
    simp [Reps.len e3]
theorem Reps.get : ∀ {l : List Dt} {vs : List V} {i : Nat} {d : Dt}, Reps K F l vs → l[i]? = some d → ∃ v, vs[i]? = some v ∧ Rep K F d v
  | [], _, _, _, _, e => by simp at e
  | d :: l, vs, 0, d', h, e => by
    obtain ⟨v, r, rfl, e2, e3⟩ := h
    have : d = d' := by simpa using e
    subst this
    exact ⟨v, rfl, e2⟩
  | d :: l, vs, i + 1, d', h, e => by
    obtain ⟨v, r, rfl, e2, e3⟩ := h
    exact Reps.get (i := i) e3 (by simpa using e)
theorem Reps.app : ∀ {l m : List Dt} {vs ws : List V}, Reps K F l vs → Reps K F m ws → Reps K F (l ++ m) (vs ++ ws)
  | [], _, _, _, h, k => by
    have h : _ = [] := h
    rw [h]
    exact k
  | d :: l, m, vs, ws, h, k => by
    obtain ⟨v, r, rfl, e2, e3⟩ := h
    exact ⟨v, r ++ ws, rfl, e2, Reps.app e3 k⟩
theorem Reps.take : ∀ {l : List Dt} {vs : List V} (n : Nat), Reps K F l vs → Reps K F (l.take n) (vs.take n)
  | _, _, 0, _ => by simp [Reps]
  | [], _, n + 1, h => by
    have h : _ = [] := h
    rw [h]
    simp [Reps]
  | d :: l, vs, n + 1, h => by
    obtain ⟨v, r, rfl, e2, e3⟩ := h
    exact ⟨v, r.take n, rfl, e2, Reps.take n e3⟩
theorem Reps.drop : ∀ {l : List Dt} {vs : List V} (n : Nat), Reps K F l vs → Reps K F (l.drop n) (vs.drop n)
  | _, _, 0, h => by simpa using h
  | [], _, n + 1, h => by
    have h : _ = [] := h
    rw [h]
    simp [Reps]
  | d :: l, vs, n + 1, h => by
    obtain ⟨v, r, rfl, e2, e3⟩ := h
    simpa using Reps.drop n e3
theorem Reps.set {d : Dt} {v : V} (r : Rep K F d v) : ∀ {l : List Dt} {vs : List V} (n : Nat), Reps K F l vs → Reps K F (l.set n d) (vs.set n v)
  | [], _, _, h => by
    have h : _ = [] := h
    rw [h]
    simp [Reps]
  | d' :: l, vs, 0, h => by
    obtain ⟨v', r', rfl, e2, e3⟩ := h
    exact ⟨v, r', rfl, r, e3⟩
  | d' :: l, vs, n + 1, h => by
    obtain ⟨v', r', rfl, e2, e3⟩ := h
    exact ⟨v', r'.set n v, rfl, e2, Reps.set r n e3⟩
theorem Reps.one {d : Dt} {v : V} (r : Rep K F d v) : Reps K F [d] [v] := ⟨v, [], rfl, r, rfl⟩
theorem Reps.nil : Reps K F [] [] := rfl
theorem Reps.cons {d : Dt} {v : V} {l : List Dt} {vs : List V} (r : Rep K F d v) (k : Reps K F l vs) : Reps K F (d :: l) (v :: vs) := ⟨v, vs, rfl, r, k⟩
theorem Reps.ints : ∀ (ns : List Int), Reps K F (ns.map Dt.int) (ns.map V.int)
  | [] => rfl
  | n :: ns => ⟨.int n, ns.map V.int, rfl, rfl, Reps.ints ns⟩
theorem Reps.strs : ∀ (ns : List Str), Reps K F (ns.map Dt.str) (ns.map V.str)
  | [] => rfl
  | n :: ns => ⟨.str n, ns.map V.str, rfl, rfl, Reps.strs ns⟩
end

/-! ### the mutable lists, the state -/
/-- what may change: a list, a table of code objects -/
inductive Mu where
  | l (ds : List Dt) | t (q : Str)
abbrev Mst := List (Addr × Mu)
abbrev dom (M : Mst) : List Addr := M.map (·.1)
/-- what grows: m may change, all else stays; F: what stands still -/
structure Gr (m : List Addr) (F H F' H' : Hp) : Prop where
  ex : ∀ a o, a ∉ m → H a = some o → H' a = some o
  sub : Sub F F'
  new : ∀ a xs, F' a = some (.lst xs) → F a = none → H a = none ∨ a ∈ m
  old : ∀ a, a ∈ m → H a ≠ none → H' a ≠ none
def MuOk (K : PySem.W.Frag) (F H : Hp) (a : Addr) : Mu → Prop
  | .l ds => ∃ vs, H a = some (.lst vs) ∧ Reps K F ds vs
  | .t q => LamX.TabS H a q
theorem MuOk.there {K : PySem.W.Frag} {F H : Hp} {a : Addr} : ∀ {u : Mu}, MuOk K F H a u → H a ≠ none
  | .l ds, ⟨vs, e, _⟩ => by rw [e]; simp
  | .t q, ⟨ps, e, _⟩ => by rw [e]; simp
structure Sta (K : PySem.W.Frag) (F : Hp) (M : Mst) (H : Hp) : Prop where
  sub : Sub F H
  mt : ∀ p ∈ M, MuOk K F H p.1 p.2
  off : ∀ p ∈ M, F p.1 = none
  nd : (dom M).Nodup
theorem Gr.refl (m : List Addr) (F H : Hp) : Gr m F H F H := ⟨fun _ _ _ h => h, Sub.refl F, fun a xs h h' => (by rw [h] at h'; cases h'), fun _ _ h => h⟩
theorem Gr.free {m : List Addr} {F H F' H' : Hp} (g : Gr m F H F' H') {a : Addr} (h : H' a = none) : H a = none := by
  cases e : H a with
  | none => rfl
  | some o =>
    by_cases ha : a ∈ m
    · exact absurd h (g.old a ha (by rw [e]; simp))
    · rw [g.ex a o ha e] at h
      cases h
theorem Gr.trans {m m' : List Addr} {F H F1 H1 F2 H2 : Hp} (a : Gr m F H F1 H1) (b : Gr m' F1 H1 F2 H2) (hm : ∀ x ∈ m', x ∈ m ∨ H x = none) : Gr m F H F2 H2 where
  ex := fun x o hx h => b.ex x o (fun z => (hm x z).elim hx (fun n => by rw [n] at h; cases h)) (a.ex x o hx h)
  sub := a.sub.trans b.sub
  new := fun x xs h h' => by
    cases e : F1 x with
    | none => exact (b.new x xs h e).elim (fun z => .inl (a.free z)) fun z => (hm x z).elim .inr .inl
    | some o =>
      have e2 := b.sub x o e
      rw [h] at e2
      cases e2
      exact a.new x xs e h'
  old := fun x hx h h2 => a.old x hx h (b.free h2)
theorem Gr.trans' {m : List Addr} {F H F1 H1 F2 H2 : Hp} (a : Gr m F H F1 H1) (b : Gr m F1 H1 F2 H2) : Gr m F H F2 H2 := a.trans b fun _ h => .inl h
theorem Gr.wide {m m' : List Addr} {F H F1 H1 : Hp} (a : Gr m F H F1 H1) (h : ∀ x ∈ m, x ∈ m') : Gr m' F H F1 H1 := (Gr.refl m' F H).trans a fun x z => .inl (h x z)

/-- the slots by data -/
structure RepS (K : PySem.W.Frag) (F : Hp) (σ : L2.St) (G : List (Option Dt)) : Prop where
  len : σ.length = G.length
  get : ∀ (i : Nat) d, G[i]? = some (some d) → ∃ v, σ[i]? = some (some v) ∧ Rep K F d v
theorem RepS.mono {K : PySem.W.Frag} {F F' : Hp} {σ : L2.St} {G : List (Option Dt)} (r : RepS K F σ G) (e : Sub F F') : RepS K F' σ G :=
  ⟨r.len, fun i d h => by
    obtain ⟨v, h1, h2⟩ := r.get i d h
    exact ⟨v, h1, Rep.mono e d h2⟩⟩
theorem RepS.set {K : PySem.W.Frag} {F : Hp} {σ : L2.St} {G : List (Option Dt)} (r : RepS K F σ G) {d : Dt} {v : V} (h : Rep K F d v) (i : Nat) : RepS K F (σ.set i (some v)) (G.set i (some d)) := by
  refine ⟨by simp [r.len], fun j d' e => ?_⟩
  by_cases hj : i = j
  · subst hj
    by_cases hl : i < G.length
    · rw [List.getElem?_set_self hl] at e
      have e' : d = d' := by simpa using e
      subst e'
      exact ⟨v, List.getElem?_set_self (by rw [r.len]; exact hl), h⟩
    · rw [List.getElem?_eq_none (by simpa using hl)] at e
      cases e
  · rw [List.getElem?_set_ne hj] at e
    obtain ⟨v', h1, h2⟩ := r.get j d' e
    exact ⟨v', by rw [List.getElem?_set_ne hj]; exact h1, h2⟩
theorem RepS.start {K : PySem.W.Frag} {F : Hp} {ds : List Dt} {vs : List V} (r : Reps K F ds vs) (n : Nat) : RepS K F (vs.map some ++ List.replicate n none) (ds.map some ++ List.replicate n none) := by
  refine ⟨by simp [r.len], fun i d e => ?_⟩
  by_cases hi : i < ds.length
  · rw [List.getElem?_append_left (by simpa using hi), List.getElem?_map] at e
    cases q : ds[i]? with
    | none => rw [q] at e; simp at e
    | some d' =>
      rw [q] at e
      have e' : d' = d := by simpa using e
      subst e'
      obtain ⟨v, h1, h2⟩ := r.get q
      refine ⟨v, ?_, h2⟩
      rw [List.getElem?_append_left (by rw [List.length_map, r.len]; exact hi), List.getElem?_map, h1]
      rfl
  · rw [List.getElem?_append_right (by simpa using hi)] at e
    rw [List.getElem?_replicate] at e
    split at e <;> cases e

/-! ### the weakest readings -/
def wE (X : Cx) (e : Expr) : TE := fun σ H Q => ∀ (pins : List (Addr × Obj)) (s : Shared), Inv X pins σ H s → wpAny (model X.prog X.w) X.A (eval e X.env) (EP X pins σ Q) X.xe s
def wT (X : Cx) (e : Expr) : TT := fun σ H Q => ∀ (pins : List (Addr × Obj)) (s : Shared), Inv X pins σ H s → wpAny (model X.prog X.w) X.A (isTrue e X.env (eval e X.env)) (TP X pins σ Q) X.xe s
def wW (X : Cx) (e : Expr) : TT := fun σ H Q => ∀ (whole : Sem Value) (pins : List (Addr × Obj)) (s : Shared), Inv X pins σ H s → wpAny (model X.prog X.w) X.A (isTrue e X.env whole) (TP X pins σ Q) X.xe s
def wA (X : Cx) (es : List Expr) : TA := fun σ H Q => ∀ (pos : Pos) (pins : List (Addr × Obj)) (s : Shared), Inv X pins σ H s → wpAny (model X.prog X.w) X.A (spliced (backTo pos (starEach es X.env))) (AP X pins σ Q) X.xe s
def wS (X : Cx) (st : Stmt) : TS := fun D σ H => ∀ (pins : List (Addr × Obj)) (s : Shared), Inv X pins σ H s → wpAny (model X.prog X.w) X.A (exec st X.env) (SP X pins D) X.xe s
def wSs (X : Cx) (st : List Stmt) : TS := fun D σ H => ∀ (pins : List (Addr × Obj)) (s : Shared), Inv X pins σ H s → wpAny (model X.prog X.w) X.A (execs st X.env) (SP X pins D) X.xe s
section
variable {X : Cx} {e : Expr} {es : List Expr} {st : Stmt} {sts : List Stmt}
theorem pe_w : PE X e (wE X e) := ⟨fun pins s _ _ _ I h => h pins s I⟩
theorem pt_w : PT X e (wT X e) := ⟨fun pins s _ _ _ I h => h pins s I⟩
theorem pw_w : PW X e (wW X e) := ⟨fun wh pins s _ _ _ I h => h wh pins s I⟩
theorem pa_w : PA X es (wA X es) := ⟨fun pos pins s _ _ _ I h => h pos pins s I⟩
theorem ps_w : PS X st (wS X st) := ⟨fun pins s _ _ _ I h => h pins s I⟩
theorem pss_w : PSs X sts (wSs X sts) := ⟨fun pins s _ _ _ I h => h pins s I⟩
theorem w_e {t : TE} (h : PE X e t) {σ : L2.St} {H : Hp} {Q : VK} (q : t σ H Q) : wE X e σ H Q := fun pins s I => h.run pins s σ H Q I q
theorem w_t {t : TT} (h : PT X e t) {σ : L2.St} {H : Hp} {Q : Bool → Hp → Prop} (q : t σ H Q) : wT X e σ H Q := fun pins s I => h.run pins s σ H Q I q
theorem w_w {t : TT} (h : PW X e t) {σ : L2.St} {H : Hp} {Q : Bool → Hp → Prop} (q : t σ H Q) : wW X e σ H Q := fun wh pins s I => h.run wh pins s σ H Q I q
theorem w_a {t : TA} (h : PA X es t) {σ : L2.St} {H : Hp} {Q : List V → Hp → Prop} (q : t σ H Q) : wA X es σ H Q := fun pos pins s I => h.run pos pins s σ H Q I q
theorem w_s {t : TS} (h : PS X st t) {σ : L2.St} {H : Hp} {D : Ends} (q : t D σ H) : wS X st D σ H := fun pins s I => h.run pins s σ H D I q
theorem w_ss {t : TS} (h : PSs X sts t) {σ : L2.St} {H : Hp} {D : Ends} (q : t D σ H) : wSs X sts D σ H := fun pins s I => h.run pins s σ H D I q
end

/-! ### what an expression gives, by data -/
/-- behind a piece: grown, the mutable lists as told, the value as told -/
def EE (K : PySem.W.Frag) (te : TE) (G : List (Option Dt)) (M : Mst) (d : Dt) (M' : Mst) : Prop := dom M' = dom M ∧
  ∀ (σ : L2.St) (F H : Hp) (Q : VK), RepS K F σ G → Sta K F M H → (∀ v F' H', Gr (dom M) F H F' H' → Sta K F' M' H' → Rep K F' d v → Q v H') → te σ H Q
def ET (K : PySem.W.Frag) (tt : TT) (G : List (Option Dt)) (M : Mst) (b : Bool) (M' : Mst) : Prop := dom M' = dom M ∧
  ∀ (σ : L2.St) (F H : Hp) (Q : Bool → Hp → Prop), RepS K F σ G → Sta K F M H → (∀ F' H', Gr (dom M) F H F' H' → Sta K F' M' H' → Q b H') → tt σ H Q
def EA (K : PySem.W.Frag) (ta : TA) (G : List (Option Dt)) (M : Mst) (ds : List Dt) (M' : Mst) : Prop := dom M' = dom M ∧
  ∀ (σ : L2.St) (F H : Hp) (Q : List V → Hp → Prop), RepS K F σ G → Sta K F M H → (∀ vs F' H', Gr (dom M) F H F' H' → Sta K F' M' H' → Reps K F' ds vs → Q vs H') → ta σ H Q
abbrev EX (X : Cx) (e : Expr) (G : List (Option Dt)) (M : Mst) (d : Dt) (M' : Mst) : Prop := EE X.K (wE X e) G M d M'
abbrev TX (X : Cx) (e : Expr) (G : List (Option Dt)) (M : Mst) (b : Bool) (M' : Mst) : Prop := ET X.K (wT X e) G M b M'
abbrev WX' (X : Cx) (e : Expr) (G : List (Option Dt)) (M : Mst) (b : Bool) (M' : Mst) : Prop := ET X.K (wW X e) G M b M'
abbrev AX (X : Cx) (es : List Expr) (G : List (Option Dt)) (M : Mst) (ds : List Dt) (M' : Mst) : Prop := EA X.K (wA X es) G M ds M'

/-! ### two after one another -/
section
variable {K : PySem.W.Frag} {te ta tb : TE} {t u : TT} {G : List (Option Dt)} {M M1 M2 M3 : Mst} {d d1 d2 d3 : Dt} {b c : Bool} {σ : L2.St} {F H : Hp}
theorem gr2 {F1 H1 F2 H2 : Hp} (h : dom M1 = dom M) (a : Gr (dom M) F H F1 H1) (b : Gr (dom M1) F1 H1 F2 H2) : Gr (dom M) F H F2 H2 := a.trans' (h ▸ b)
theorem EE.mk' (h : dom M1 = dom M) (k : ∀ (σ : L2.St) (F H : Hp) (Q : VK), RepS K F σ G → Sta K F M H → (∀ v F' H', Gr (dom M) F H F' H' → Sta K F' M1 H' → Rep K F' d v → Q v H') → te σ H Q) : EE K te G M d M1 := ⟨h, k⟩
/-- a value that is there at once -/
theorem EE.now (k : ∀ (σ : L2.St) (F H : Hp) (Q : VK), RepS K F σ G → Sta K F M H → (∀ v, Rep K F d v → Q v H) → te σ H Q) : EE K te G M d M :=
  ⟨rfl, fun σ F H Q r s q => k σ F H Q r s fun v h => q v F H (Gr.refl _ _ _) s h⟩
/-- two values, then what is made of them -/
theorem EE.two (ha : EE K ta G M d1 M1) (hb : EE K tb G M1 d2 M2) {σ : L2.St} {F H : Hp} {R : V → V → Hp → Prop} (r : RepS K F σ G) (s : Sta K F M H)
    (k : ∀ x y F' H', Gr (dom M) F H F' H' → Sta K F' M2 H' → Rep K F' d1 x → Rep K F' d2 y → R x y H') : ta σ H fun x H1 => tb σ H1 fun y H2 => R x y H2 :=
  ha.2 σ F H _ r s fun x F1 H1 g1 s1 r1 => hb.2 σ F1 H1 _ (r.mono g1.sub) s1 fun y F2 H2 g2 s2 r2 => k x y F2 H2 (gr2 ha.1 g1 g2) s2 (Rep.mono g2.sub _ r1) r2
end
end HM

set_option Elab.async false
set_option linter.all false
set_option maxRecDepth 100000
set_option maxHeartbeats 4000000
/-! HM2: the rules of expressions, by data. -/
namespace HM
open PySem PySem.Spec PyProof.Rows L2

/-! ### a new object that stands still -/
section
variable {K : PySem.W.Frag} {F H : Hp} {M : Mst} {p : Addr} {o : HO}
theorem Sta.free (s : Sta K F M H) (hp : H p = none) : F p = none := by
  cases e : F p with
  | none => rfl
  | some o =>
    rw [s.sub p o e] at hp
    cases hp
theorem Sta.fresh (s : Sta K F M H) (hp : H p = none) : p ∉ dom M := fun z => by
  obtain ⟨q, hq, rfl⟩ := List.mem_map.mp z
  exact MuOk.there (s.mt q hq) hp
/-- what changes is told of a heap that only grew, the frozen part too -/
theorem MuOk.ext {K : PySem.W.Frag} {F H F' H' : Hp} {a : Addr} (sb : Sub F F') (k : ∀ b o, H b = some o → H' b = some o) : ∀ {u : Mu}, MuOk K F H a u → MuOk K F' H' a u
  | .l ds, ⟨vs, e, r⟩ => ⟨vs, k _ _ e, Reps.mono sb _ r⟩
  | .t q, h => LamX.TabS.ext h k
theorem sub_upd (h : F p = none) : Sub F (upd F p o) := fun a u e => by
  rw [upd_ne (ne_of_none e h)]
  exact e
theorem Sta.new (s : Sta K F M H) (hp : H p = none) : Sta K (upd F p o) M (upd H p o) := by
  have fp := s.free hp
  refine ⟨fun a u e => ?_, fun q hq => ?_, fun q hq => ?_, s.nd⟩
  · by_cases h : a = p
    · subst h
      rw [upd_same] at e ⊢
      exact e
    · rw [upd_ne h] at e ⊢
      exact s.sub a u e
  · exact MuOk.ext (sub_upd fp) (fun b u e => by
      rw [upd_ne (ne_of_none e hp)]
      exact e) (s.mt q hq)
  · rw [upd_ne (fun z => MuOk.there (s.mt q hq) (by rw [z]; exact hp))]
    exact s.off q hq
theorem gr_new (s : Sta K F M H) (hp : H p = none) : Gr (dom M) F H (upd F p o) (upd H p o) := by
  refine ⟨fun a u _ e => ?_, sub_upd (s.free hp), fun a xs e n => ?_, fun a ha e => ?_⟩
  · rw [upd_ne (ne_of_none e hp)]
    exact e
  · by_cases h : a = p
    · subst h
      exact .inl hp
    · rw [upd_ne h] at e
      rw [e] at n
      cases n
  · by_cases h : a = p
    · subst h
      rw [upd_same]
      simp
    · rw [upd_ne h]
      exact e
end

/-! ### operations by data -/
def OpD (K : PySem.W.Frag) (r : R2) (d1 d2 d : Dt) : Prop := ∀ (M : Mst) (F H : Hp) (x y : V) (Q : VK), Sta K F M H → Rep K F d1 x → Rep K F d2 y → (∀ v F' H', Gr (dom M) F H F' H' → Sta K F' M H' → Rep K F' d v → Q v H') → r x y H Q
def UnD (K : PySem.W.Frag) (r : V → Hp → VK → Prop) (d1 d : Dt) : Prop := ∀ (M : Mst) (F H : Hp) (x : V) (Q : VK), Sta K F M H → Rep K F d1 x → (∀ v F' H', Gr (dom M) F H F' H' → Sta K F' M H' → Rep K F' d v → Q v H') → r x H Q
def CallD (K : PySem.W.Frag) (r : List V → Hp → VK → Prop) (ds : List Dt) (d : Dt) : Prop := ∀ (M : Mst) (F H : Hp) (vs : List V) (Q : VK), Sta K F M H → Reps K F ds vs → (∀ v F' H', Gr (dom M) F H F' H' → Sta K F' M H' → Rep K F' d v → Q v H') → r vs H Q
def MtD (K : PySem.W.Frag) (r : V → List V → Hp → VK → Prop) (d1 : Dt) (ds : List Dt) (d : Dt) : Prop := ∀ (M : Mst) (F H : Hp) (x : V) (vs : List V) (Q : VK), Sta K F M H → Rep K F d1 x → Reps K F ds vs → (∀ v F' H', Gr (dom M) F H F' H' → Sta K F' M H' → Rep K F' d v → Q v H') → r x vs H Q
/-- at once, nothing made -/
theorem OpD.now {K : PySem.W.Frag} {r : R2} {d1 d2 d : Dt} (h : ∀ (F H : Hp) (x y : V) (Q : VK), Sub F H → Rep K F d1 x → Rep K F d2 y → (∀ v, Rep K F d v → Q v H) → r x y H Q) : OpD K r d1 d2 d :=
  fun M F H x y Q s r1 r2 q => h F H x y Q s.sub r1 r2 fun v rv => q v F H (Gr.refl _ _ _) s rv
theorem UnD.now {K : PySem.W.Frag} {r : V → Hp → VK → Prop} {d1 d : Dt} (h : ∀ (F H : Hp) (x : V) (Q : VK), Sub F H → Rep K F d1 x → (∀ v, Rep K F d v → Q v H) → r x H Q) : UnD K r d1 d :=
  fun M F H x Q s r1 q => h F H x Q s.sub r1 fun v rv => q v F H (Gr.refl _ _ _) s rv
theorem CallD.now {K : PySem.W.Frag} {r : List V → Hp → VK → Prop} {ds : List Dt} {d : Dt} (h : ∀ (F H : Hp) (vs : List V) (Q : VK), Sub F H → Reps K F ds vs → (∀ v, Rep K F d v → Q v H) → r vs H Q) : CallD K r ds d :=
  fun M F H vs Q s r1 q => h F H vs Q s.sub r1 fun v rv => q v F H (Gr.refl _ _ _) s rv
theorem MtD.now {K : PySem.W.Frag} {r : V → List V → Hp → VK → Prop} {d1 : Dt} {ds : List Dt} {d : Dt} (h : ∀ (F H : Hp) (x : V) (vs : List V) (Q : VK), Sub F H → Rep K F d1 x → Reps K F ds vs → (∀ v, Rep K F d v → Q v H) → r x vs H Q) : MtD K r d1 ds d :=
  fun M F H x vs Q s r1 r2 q => h F H x vs Q s.sub r1 r2 fun v rv => q v F H (Gr.refl _ _ _) s rv
section
variable {K : PySem.W.Frag}
theorem opI {C : Int → Int → Prop} {g : Int → Int → V} {i j : Int} {d : Dt} (hd : ∀ F, Rep K F d (g i j)) (h : C i j) : OpD K (rI C g) (.int i) (.int j) d := OpD.now fun F H x y Q _ r1 r2 q => ⟨i, j, r1, r2, h, q _ (hd F)⟩
theorem opI0 {g : Int → Int → V} {i j : Int} {d : Dt} (hd : ∀ F, Rep K F d (g i j)) : OpD K (rI0 g) (.int i) (.int j) d := OpD.now fun F H x y Q _ r1 r2 q => ⟨i, j, r1, r2, q _ (hd F)⟩
theorem opInt {C : Int → Int → Prop} {g : Int → Int → Int} {i j : Int} (h : C i j) : OpD K (rI C fun i j => .int (g i j)) (.int i) (.int j) (.int (g i j)) := opI (fun _ => rfl) h
theorem opInt0 {g : Int → Int → Int} {i j : Int} : OpD K (rI0 fun i j => .int (g i j)) (.int i) (.int j) (.int (g i j)) := opI0 fun _ => rfl
theorem opBl0 {g : Int → Int → Bool} {i j : Int} : OpD K (rI0 fun i j => .bl (g i j)) (.int i) (.int j) (.bl (g i j)) := opI0 fun _ => rfl
end

section
variable {X : Cx} {e a b c : Expr} {es : List Expr} {G : List (Option Dt)} {M M1 M2 M3 : Mst} {d d1 d2 d3 : Dt} {ds : List Dt} {pos apos : Pos} {x : Str} {k k2 : Bool}
/-! ### names, constants -/
theorem ex_nm (i : Nat) {x : Str} (hN : X.N[i]? = some x := by rfl) (hv : Vis X.env.scope x := by first | exact Or.inl rfl | exact Or.inr (Or.inl rfl) | exact Or.inr (Or.inr rfl)) (hG : G[i]? = some (some d) := by rfl)
    (hd : (x == ("__debug__" : Str)) = false := by decide) (hcd : (x == ("__classdict__" : Str)) = false := by decide) : EX X (.Name x pos) G M d M :=
  EE.now fun σ F H Q r _ q => w_e (pe_var hN hv hd hcd) (by
    obtain ⟨v, h1, h2⟩ := r.get i d hG
    exact ⟨v, h1, q v h2⟩)
theorem ex_int {i : Int} {j} : EX X (.Constant (.int i) j pos) G M (.int i) M := EE.now fun σ F H Q _ _ q => w_e pe_int (q _ rfl)
theorem ex_str {z : Str} {j} : EX X (.Constant (.str z) j pos) G M (.str z) M := EE.now fun σ F H Q _ _ q => w_e pe_str (q _ rfl)
theorem ex_bl {z : Bool} {j} : EX X (.Constant (.bool z) j pos) G M (.bl z) M := EE.now fun σ F H Q _ _ q => w_e pe_bl (q _ rfl)
theorem ex_non {j} : EX X (.Constant .none j pos) G M .non M := EE.now fun σ F H Q _ _ q => w_e pe_non (q _ rfl)
theorem ex_glob {u : Value} {v : V} (hg : Gl X x) (hm : X.mg x = some u) (r : RelV v u) (hd : (x == ("__debug__" : Str)) = false := by decide) (hr : ∀ F, Rep X.K F d v := by intro _; rfl) : EX X (.Name x pos) G M d M :=
  EE.now fun σ F H Q _ _ q => w_e (pe_glob hg hm r hd) (q _ (hr F))
theorem ex_globI {i : Int} (hm : ∃ t, X.mg x = some (.int i t)) (hg : Gl X x := by rfl) (hd : (x == ("__debug__" : Str)) = false := by decide) : EX X (.Name x pos) G M (.int i) M :=
  EE.now fun σ F H Q _ _ q => by
    obtain ⟨t, hm⟩ := hm
    exact w_e (pe_glob (v := .int i) hg hm ⟨t, rfl⟩ hd) (q _ rfl)

/-! ### arguments, displays -/
theorem ax_nil : AX X [] G M [] M := ⟨rfl, fun σ F H Q _ s q => w_a pa_nil (q [] F H (Gr.refl _ _ _) s rfl)⟩
theorem ax_cons (h : EX X e G M d M1) (hr : AX X es G M1 ds M2) (hs : starEach (e :: es) X.env = (false, eval e X.env) :: starEach es X.env := by rfl) : AX X (e :: es) G M (d :: ds) M2 :=
  ⟨hr.1.trans h.1, fun σ F H Q r s q => w_a (pa_cons pe_w pa_w hs) (h.2 σ F H _ r s fun v F1 H1 g1 s1 r1 =>
    hr.2 σ F1 H1 _ (r.mono g1.sub) s1 fun vs F2 H2 g2 s2 r2 => q _ F2 H2 (gr2 h.1 g1 g2) s2 (Reps.cons (Rep.mono g2.sub _ r1) r2))⟩
theorem ex_tup {x1} (h : AX X es G M ds M1) (hl : ds.length ≤ 100000 := by decide) : EX X (.Tuple es x1 pos) G M (.tup ds) M1 :=
  ⟨h.1, fun σ F H Q r s q => w_e (pe_tup pa_w) (h.2 σ F H _ r s fun vs F1 H1 g1 s1 r1 => ⟨by rw [r1.len]; exact Nat.le_trans hl (by decide), fun p hp =>
    q _ _ _ (gr2 h.1 g1 (gr_new s1 hp)) (s1.new hp) ⟨p, vs, rfl, SqT.of upd_same, Reps.mono (sub_upd (s1.free hp)) _ r1⟩⟩)⟩
theorem ex_lst (h : AX X es G M ds M1) (hl : ds.length ≤ 100000 := by decide) : EX X (.List es pos) G M (.lst ds) M1 :=
  ⟨h.1, fun σ F H Q r s q => w_e (pe_lst pa_w) (h.2 σ F H _ r s fun vs F1 H1 g1 s1 r1 => ⟨by rw [r1.len]; exact Nat.le_trans hl (by decide), fun p hp =>
    q _ _ _ (gr2 h.1 g1 (gr_new s1 hp)) (s1.new hp) ⟨p, vs, rfl, SqL.of upd_same, Reps.mono (sub_upd (s1.free hp)) _ r1⟩⟩)⟩

/-! ### operators -/
theorem ee_op {ta tb : TE} {r : R2} (hr : OpD X.K r d1 d2 d) (ha : EE X.K ta G M d1 M1) (hb : EE X.K tb G M1 d2 M2) : EE X.K (tOp r ta tb) G M d M2 :=
  ⟨hb.1.trans ha.1, fun σ F H Q rs s q => ha.two hb rs s fun x y F1 H1 g1 s1 r1 r2 => hr M2 F1 H1 x y Q s1 r1 r2 fun v F2 H2 g2 s2 rv => q v F2 H2 (gr2 (hb.1.trans ha.1) g1 g2) s2 rv⟩
theorem EE.of {te te' : TE} (h : ∀ {σ H} {Q : VK}, te σ H Q → te' σ H Q) (k : EE X.K te G M d M1) : EE X.K te' G M d M1 := ⟨k.1, fun σ F H Q r s q => h (k.2 σ F H Q r s q)⟩
theorem ET.of {te te' : TT} (h : ∀ {σ H} {Q : Bool → Hp → Prop}, te σ H Q → te' σ H Q) (q : ET X.K te G M k M1) : ET X.K te' G M k M1 := ⟨q.1, fun σ F H Q r s z => h (q.2 σ F H Q r s z)⟩
theorem ex_op {op : Operator} {r : R2} (ho : OpR X (binaryOp op) r) (hr : OpD X.K r d1 d2 d) (ha : EX X a G M d1 M1) (hb : EX X b G M1 d2 M2) : EX X (.BinOp a op b pos) G M d M2 := (ee_op hr ha hb).of (w_e (pe_op ho pe_w pe_w))
theorem ex_un {op : UnaryOp} {r : V → Hp → VK → Prop} (ho : UnR X (unaryOp op) r) (hr : UnD X.K r d1 d) (ha : EX X a G M d1 M1) : EX X (.UnaryOp op a pos) G M d M1 :=
  ⟨ha.1, fun σ F H Q rs s q => w_e (pe_un ho pe_w) (ha.2 σ F H _ rs s fun x F1 H1 g1 s1 r1 => hr M1 F1 H1 x Q s1 r1 fun v F2 H2 g2 s2 rv => q v F2 H2 (gr2 ha.1 g1 g2) s2 rv)⟩
theorem ex_cmp {op : CmpOp} {r : R2} (ho : OpR X (compareOp op) r) (hr : OpD X.K r d1 d2 d) (ha : EX X a G M d1 M1) (hb : EX X b G M1 d2 M2) (hm : behindInMarks op b = false := by first | exact nomark _ | rfl) : EX X (.Compare a [op] [b] pos) G M d M2 :=
  (ee_op hr ha hb).of (w_e (pe_cmpR ho pe_w pe_w hm))
theorem tx_cmp {op : CmpOp} {r : R2} (ho : OpR X (compareOp op) r) (hr : OpD X.K r d1 d2 (.bl k)) (ha : EX X a G M d1 M1) (hb : EX X b G M1 d2 M2) (hm : behindInMarks op b = false := by first | exact nomark _ | rfl) : TX X (.Compare a [op] [b] pos) G M k M2 :=
  ⟨hb.1.trans ha.1, fun σ F H Q rs s q => w_t (pt_cmpR ho pe_w pe_w hm) ((ee_op hr ha hb).2 σ F H _ rs s fun v F1 H1 g1 s1 r1 => ⟨k, r1, q F1 H1 g1 s1⟩)⟩
/-- an expression that gives a bool, as a test -/
theorem tx_val (h : EX X e G M (.bl k) M1) (he : ∀ whole, isTrue e X.env whole = (do let v ← whole; standAt e.pos; holding [v] (truthy v)) := by intro _; rfl) : TX X e G M k M1 :=
  ⟨h.1, fun σ F H Q rs s q => w_t (pt_val pe_w he) (h.2 σ F H _ rs s fun v F1 H1 g1 s1 r1 => ⟨k, r1, q F1 H1 g1 s1⟩)⟩
theorem tx_not (h : TX X a G M k M1) : TX X (.UnaryOp .Not a pos) G M (!k) M1 := ⟨h.1, fun σ F H Q rs s q => w_t (pt_not pt_w) (h.2 σ F H _ rs s fun F1 H1 g1 s1 => q F1 H1 g1 s1)⟩
theorem tx_w (h : WX' X e G M k M1) : TX X e G M k M1 := ⟨h.1, fun σ F H Q rs s q => w_t pw_w.pt (h.2 σ F H _ rs s q)⟩
theorem wx_and1 (h : TX X a G M k M1) : WX' X (.BoolOp .And [a] pos) G M k M1 := ⟨h.1, fun σ F H Q rs s q => w_w (pw_and1 pt_w) (h.2 σ F H _ rs s q)⟩
theorem wx_or1 (h : TX X a G M k M1) : WX' X (.BoolOp .Or [a] pos) G M k M1 := ⟨h.1, fun σ F H Q rs s q => w_w (pw_or1 pt_w) (h.2 σ F H _ rs s q)⟩
/-- the right part is asked only where the left one says so (the mutable lists stay) -/
theorem wx_and {rest : List Expr} (h : TX X a G M k M) (h2 : k = true → WX' X (.BoolOp .And (b :: rest) pos) G M k2 M) : WX' X (.BoolOp .And (a :: b :: rest) pos) G M (k && k2) M :=
  ⟨rfl, fun σ F H Q rs s q => w_w (pw_and pt_w pw_w) (h.2 σ F H _ rs s fun F1 H1 g1 s1 => by
    cases k with
    | true => exact iteT ((h2 rfl).2 σ F1 H1 _ (rs.mono g1.sub) s1 fun F2 H2 g2 s2 => q F2 H2 (g1.trans' g2) s2)
    | false => exact iteF (q F1 H1 g1 s1))⟩
theorem wx_or {rest : List Expr} (h : TX X a G M k M) (h2 : k = false → WX' X (.BoolOp .Or (b :: rest) pos) G M k2 M) : WX' X (.BoolOp .Or (a :: b :: rest) pos) G M (k || k2) M :=
  ⟨rfl, fun σ F H Q rs s q => w_w (pw_or pt_w pw_w) (h.2 σ F H _ rs s fun F1 H1 g1 s1 => by
    cases k with
    | true => exact iteT (q F1 H1 g1 s1)
    | false => exact iteF ((h2 rfl).2 σ F1 H1 _ (rs.mono g1.sub) s1 fun F2 H2 g2 s2 => q F2 H2 (g1.trans' g2) s2))⟩
/-- .. as values (bools) -/
theorem ex_one {op} (h : EX X a G M d M1) : EX X (.BoolOp op [a] pos) G M d M1 := h.of (w_e (pe_one pe_w))
theorem ex_and {rest : List Expr} (h : EX X a G M (.bl k) M) (h2 : k = true → EX X (.BoolOp .And (b :: rest) pos) G M (.bl k2) M) : EX X (.BoolOp .And (a :: b :: rest) pos) G M (.bl (k && k2)) M :=
  ⟨rfl, fun σ F H Q rs s q => w_e (pe_and pe_w pe_w) (h.2 σ F H _ rs s fun v F1 H1 g1 s1 r1 => ⟨k, r1, by
    cases k with
    | true => exact iteT ((h2 rfl).2 σ F1 H1 _ (rs.mono g1.sub) s1 fun v F2 H2 g2 s2 r2 => q v F2 H2 (g1.trans' g2) s2 r2)
    | false => exact iteF (q _ F1 H1 g1 s1 rfl)⟩)⟩
theorem ex_or {rest : List Expr} (h : EX X a G M (.bl k) M) (h2 : k = false → EX X (.BoolOp .Or (b :: rest) pos) G M (.bl k2) M) : EX X (.BoolOp .Or (a :: b :: rest) pos) G M (.bl (k || k2)) M :=
  ⟨rfl, fun σ F H Q rs s q => w_e (pe_or pe_w pe_w) (h.2 σ F H _ rs s fun v F1 H1 g1 s1 r1 => ⟨k, r1, by
    cases k with
    | true => exact iteT (q _ F1 H1 g1 s1 rfl)
    | false => exact iteF ((h2 rfl).2 σ F1 H1 _ (rs.mono g1.sub) s1 fun v F2 H2 g2 s2 r2 => q v F2 H2 (g1.trans' g2) s2 r2)⟩)⟩
theorem ex_not (h : EX X a G M (.bl k) M1) : EX X (.UnaryOp .Not a pos) G M (.bl (!k)) M1 := ⟨h.1, fun σ F H Q rs s q => w_e (pe_not pe_w) (h.2 σ F H _ rs s fun v F1 H1 g1 s1 r1 => ⟨k, r1, q _ F1 H1 g1 s1 rfl⟩)⟩
theorem ex_if (hc : TX X c G M k M1) (ha : k = true → EX X a G M1 d M2) (hb : k = false → EX X b G M1 d M2) (hd : dom M2 = dom M1 := by rfl) : EX X (.IfExp c a b pos) G M d M2 :=
  ⟨hd.trans hc.1, fun σ F H Q rs s q => w_e (pe_ifExp pt_w pe_w pe_w) (hc.2 σ F H _ rs s fun F1 H1 g1 s1 => by
    cases k with
    | true => exact iteT ((ha rfl).2 σ F1 H1 _ (rs.mono g1.sub) s1 fun v F2 H2 g2 s2 r2 => q v F2 H2 (gr2 hc.1 g1 g2) s2 r2)
    | false => exact iteF ((hb rfl).2 σ F1 H1 _ (rs.mono g1.sub) s1 fun v F2 H2 g2 s2 r2 => q v F2 H2 (gr2 hc.1 g1 g2) s2 r2))⟩
/-- the same value said otherwise -/
theorem EE.is {te : TE} {K : PySem.W.Frag} (h : EE K te G M d M1) (e : d = d1) : EE K te G M d1 M1 := e ▸ h
theorem ET.is {te : TT} {K : PySem.W.Frag} (h : ET K te G M k M1) (e : k = k2) : ET K te G M k2 M1 := e ▸ h

/-! ### built-in functions, methods, subscripts -/
theorem ee_cb {ta : TA} {r : List V → Hp → VK → Prop} (hr : CallD X.K r ds d) (ha : EA X.K ta G M ds M1) : EE X.K (tCB r ta) G M d M1 :=
  ⟨ha.1, fun σ F H Q rs s q => ha.2 σ F H _ rs s fun vs F1 H1 g1 s1 r1 => hr M1 F1 H1 vs Q s1 r1 fun v F2 H2 g2 s2 rv => q v F2 H2 (gr2 ha.1 g1 g2) s2 rv⟩
theorem ex_callB {id : String} {r : List V → Hp → VK → Prop} (hc : CallR X (.builtin id) r) (hr : CallD X.K r ds d) (hm : X.mg x = none) (ha : AX X (e :: es) G M ds M1) (hg : Gl X x := by rfl) (hv : bootBuiltins x = some (.builtin id) := by decide +kernel)
    (hn : x ≠ "__name__" := by decide) (hdb : (x == ("__debug__" : Str)) = false := by decide)
    (he : starEach (e :: es) X.env = (false, eval e X.env) :: starEach es X.env := by rfl) (hpl : (backTo pos (starEach es X.env)).any (·.1) = false := by rfl) : EX X (.Call (.Name x apos) (e :: es) [] pos) G M d M1 :=
  (ee_cb hr ha).of (w_e (pe_callB hc hg hm hv pa_w hn hdb he hpl))
theorem ex_callTy {T : String} {r : List V → Hp → VK → Prop} (hc : CallR X (.type T) r) (hr : CallD X.K r ds d) (hm : X.mg x = none) (ha : AX X (e :: es) G M ds M1) (hg : Gl X x := by rfl) (hv : bootBuiltins x = some (.type T) := by decide +kernel)
    (hn : x ≠ "__name__" := by decide) (hdb : (x == ("__debug__" : Str)) = false := by decide)
    (he : starEach (e :: es) X.env = (false, eval e X.env) :: starEach es X.env := by rfl) (hpl : (backTo pos (starEach es X.env)).any (·.1) = false := by rfl) : EX X (.Call (.Name x apos) (e :: es) [] pos) G M d M1 :=
  (ee_cb hr ha).of (w_e (pe_callTy hc hg hm hv pa_w hn hdb he hpl))
theorem ex_ix {r : R2} (ho : IxR X r) (hr : OpD X.K r d1 d2 d) (ha : EX X a G M d1 M1) (hb : EX X b G M1 d2 M2) (hs : PlainIx b := by exact fun _ _ => rfl) : EX X (.Subscript a b pos) G M d M2 := (ee_op hr ha hb).of (w_e (pe_ix ho pe_w pe_w hs))
end
end HM

set_option Elab.async false
set_option linter.all false
set_option maxRecDepth 100000
set_option maxHeartbeats 4000000
/-! HM3: defs by their promises over data; calls; statements, loops. -/
namespace HM
open PySem PySem.Spec PyProof.Rows L2

/-! ### promises -/
/-- an own exception: its class, its fields -/
abbrev Er := Addr → List Str → List Dt → Mst → Prop
def E00 : Er := fun _ _ _ _ => False
/-- a promise over data: arguments, the mutable lists, what is wanted of the value, of an exception -/
abbrev Ct := List Dt → Mst → (Dt → Mst → Prop) → Er → Prop
def spC (K : PySem.W.Frag) (W : Ct) : Sp := fun vs H Q E => ∃ (F : Hp) (M : Mst) (ds : List Dt) (R : Dt → Mst → Prop) (Z : Er), Sta K F M H ∧ Reps K F ds vs ∧ W ds M R Z ∧
  (∀ d M' v F' H', R d M' → dom M' = dom M → Gr (dom M) F H F' H' → Sta K F' M' H' → Rep K F' d v → Q v H') ∧
  (∀ C ks fs M' dd ws F' H', Z C ks fs M' → dom M' = dom M → Gr (dom M) F H F' H' → Sta K F' M' H' → F' dd = some (.xd (ks.zip ws)) → ks.length = ws.length → Reps K F' fs ws → E (.ref C) (some dd) H')
/-- the def of the module's name x -/
def Df (P : Program) (w : World) (K : PySem.W.Frag) (mg : Str → Option Value) (base : Heap) (x : Str) (k : Nat) (W : Ct) : Prop :=
  ∃ f : Addr, mg x = some (.ref f) ∧ PySem.W.keepIn K (.ref f) = true ∧ FnR P w K mg base (L2N.CX P w) k f (spC K W)
theorem Df.mono {P : Program} {w : World} {K : PySem.W.Frag} {mg : Str → Option Value} {base : Heap} {x : Str} {j k : Nat} {W : Ct} (h : Df P w K mg base x j W) (hk : j ≤ k) : Df P w K mg base x k W :=
  let ⟨f, h1, h2, h3⟩ := h
  ⟨f, h1, h2, h3.mono hk⟩
theorem Df.imp {P : Program} {w : World} {K : PySem.W.Frag} {mg : Str → Option Value} {base : Heap} {x : Str} {k : Nat} {W W' : Ct} (h : Df P w K mg base x k W) (hk : ∀ ds M R Z, W' ds M R Z → W ds M R Z) : Df P w K mg base x k W' :=
  let ⟨f, h1, h2, h3⟩ := h
  ⟨f, h1, h2, h3.imp fun vs H Q E ⟨F, M, ds, R, Z, a, b, c, d⟩ => ⟨F, M, ds, R, Z, a, b, hk _ _ _ _ c, d⟩⟩

section
variable {X : Cx} {e a b c : Expr} {es : List Expr} {G G' : List (Option Dt)} {M M1 M2 M3 : Mst} {d d1 d2 d3 : Dt} {ds : List Dt} {pos apos : Pos} {x : Str} {k k2 : Bool}
/-- nothing is raised -/
theorem passN {X : Cx} : Passes (L2N.CX X.prog X.w) X E0 := fun _ _ _ _ _ _ _ h => by
  obtain ⟨_, _, _, _, _, _, _, _, _, _, _, _, z⟩ := h
  exact z.elim
/-- a positional call of a def by its promise, as a rule of readings -/
theorem pe_callR {j : Nat} {f : Addr} {sp : Sp} {E : XK} {t : TA} {CX : CXT} (F : FnR X.prog X.w X.K X.mg X.base CX j f sp) (hr : Room j X.A) (hg : Gl X x) (hm : X.mg x = some (.ref f)) (hk : PySem.W.keepIn X.K (.ref f) = true) (hx : Passes CX X E)
    (ha : PA X (e :: es) t) (hdb : (x == ("__debug__" : Str)) = false := by decide) (he : starEach (e :: es) X.env = (false, eval e X.env) :: starEach es X.env := by rfl) (hpl : (backTo pos (starEach es X.env)).any (·.1) = false := by rfl) :
    PE X (.Call (.Name x apos) (e :: es) [] pos) (fun σ H Q => t σ H fun vs H1 => sp vs H1 Q E) := by
  refine ⟨fun pins s σ H Q I h => ?_⟩
  refine wpAny_Call_Name_kw (ld_glob I hg hm ?_ hdb)
  refine PySem.W.callWith_K (h₀ := X.base) I.ok.mod.kin hk (thn (ha.run pos pins s σ H _ I h) fun us s1 ⟨vs, H1, I1, r, q⟩ => ⟨I1.kIn, ?_⟩) he hpl
  exact wpAny_call (run_fnR F hr hx I1 r q)
theorem pe_callR0 {j : Nat} {f : Addr} {sp : Sp} {E : XK} {CX : CXT} (F : FnR X.prog X.w X.K X.mg X.base CX j f sp) (hr : Room j X.A) (hg : Gl X x) (hm : X.mg x = some (.ref f)) (hk : PySem.W.keepIn X.K (.ref f) = true) (hx : Passes CX X E)
    (hdb : (x == ("__debug__" : Str)) = false := by decide) : PE X (.Call (.Name x apos) [] [] pos) (fun σ H Q => sp [] H Q E) := by
  refine ⟨fun pins s σ H Q I h => ?_⟩
  refine wpAny_Call_Name_kw (ld_glob I hg hm ?_ hdb)
  exact PySem.W.callWith_K0 I.kIn hk (wpAny_call (run_fnR F hr hx I .nil h))
theorem sp_go {W : Ct} {F H : Hp} {vs : List V} {Q : VK} {E : XK} (s : Sta X.K F M1 H) (r : Reps X.K F ds vs) (hw : W ds M1 (fun d' M' => d' = d ∧ M' = M2) E00) (q : ∀ v F' H', Gr (dom M1) F H F' H' → Sta X.K F' M2 H' → Rep X.K F' d v → Q v H') : spC X.K W vs H Q E :=
  ⟨F, M1, ds, _, _, s, r, hw, fun d' M' v F' H' ⟨e1, e2⟩ _ g s' rv => by
    subst e1 e2
    exact q v F' H' g s' rv, fun _ _ _ _ _ _ _ _ z => z.elim⟩
/-- f(e, ..), where nothing is raised -/
theorem ex_call {j i : Nat} {W : Ct} (F : Df X.prog X.w X.K X.mg X.base x j W) (hr : Room i X.A) (ha : AX X (e :: es) G M ds M1) (hw : W ds M1 (fun d' M' => d' = d ∧ M' = M2) E00) (hd : dom M2 = dom M1 := by rfl) (hj : j ≤ i := by decide)
    (hg : Gl X x := by rfl) (hdb : (x == ("__debug__" : Str)) = false := by decide) (he : starEach (e :: es) X.env = (false, eval e X.env) :: starEach es X.env := by rfl) (hpl : (backTo pos (starEach es X.env)).any (·.1) = false := by rfl) :
    EX X (.Call (.Name x apos) (e :: es) [] pos) G M d M2 := by
  obtain ⟨f, hm, hk, F⟩ := F
  exact ⟨hd.trans ha.1, fun σ F' H Q rs s q => w_e (pe_callR F (hr.mono hj) hg hm hk passN pa_w hdb he hpl) (ha.2 σ F' H _ rs s fun vs F1 H1 g1 s1 r1 => sp_go s1 r1 hw fun v F2 H2 g2 s2 rv => q v F2 H2 (gr2 ha.1 g1 g2) s2 rv)⟩
theorem ex_call0 {j i : Nat} {W : Ct} (F : Df X.prog X.w X.K X.mg X.base x j W) (hr : Room i X.A) (hw : W [] M (fun d' M' => d' = d ∧ M' = M2) E00) (hd : dom M2 = dom M := by rfl) (hj : j ≤ i := by decide)
    (hg : Gl X x := by rfl) (hdb : (x == ("__debug__" : Str)) = false := by decide) : EX X (.Call (.Name x apos) [] [] pos) G M d M2 := by
  obtain ⟨f, hm, hk, F⟩ := F
  exact ⟨hd, fun σ F' H Q rs s q => w_e (pe_callR0 F (hr.mono hj) hg hm hk passN hdb) (sp_go (ds := []) s rfl hw fun v F2 H2 g2 s2 rv => q v F2 H2 g2 s2 rv)⟩
end

/-! ### targets, walks -/
def wG (X : Cx) (tg : Expr) : TG := fun v σ H Q => ∀ (pins : List (Addr × Obj)) (s : Shared) (u : Value), Inv X pins σ H s → RelV v u → wpAny (model X.prog X.w) X.A (assign tg X.env u) (fun _ s' => ∃ σ' H', Inv X pins σ' H' s' ∧ Q σ' H') X.xe s
theorem pg_w {X : Cx} {tg : Expr} : PG X tg (wG X tg) := ⟨fun pins s _ _ _ u _ I r h => h pins s u I r⟩
theorem w_g {X : Cx} {tg : Expr} {t : TG} (h : PG X tg t) {v : V} {σ : L2.St} {H : Hp} {Q : L2.St → Hp → Prop} (q : t v σ H Q) : wG X tg v σ H Q := fun pins s u I r => h.run pins s σ H v u Q I r q
/-- what a store does to the slots' data -/
def GX (X : Cx) (tg : Expr) (G : List (Option Dt)) (d : Dt) (G' : List (Option Dt)) : Prop :=
  ∀ (v : V) (σ : L2.St) (F H : Hp) (Q : L2.St → Hp → Prop), RepS X.K F σ G → Sub F H → Rep X.K F d v → (∀ σ', RepS X.K F σ' G' → Q σ' H) → wG X tg v σ H Q
def GXs (X : Cx) (tgs : List Expr) (G : List (Option Dt)) (ds : List Dt) (G' : List (Option Dt)) : Prop := ∃ g : TGs, PGs X tgs g ∧
  ∀ (vs : List V) (σ : L2.St) (F H : Hp) (Q : L2.St → Hp → Prop), RepS X.K F σ G → Sub F H → Reps X.K F ds vs → (∀ σ', RepS X.K F σ' G' → Q σ' H) → g vs σ H Q
section
variable {X : Cx} {e tg : Expr} {es tgs : List Expr} {G G1 G2 : List (Option Dt)} {d : Dt} {ds : List Dt} {pos : Pos} {x : Str}
theorem gx_nm (i : Nat) (hN : X.N.Nodup) (hi : X.N[i]? = some x := by rfl) (hx : Loc X.env.scope x := by first | exact Or.inl rfl | exact Or.inr rfl) (hf : X.fn x = true ∨ X.env.scope.names.lookup x = some .local := by first | exact .inl rfl | exact .inr rfl | assumption) :
    GX X (.Name x pos) G d (G.set i (some d)) := fun v σ F H Q r _ rv q => w_g (pg_name hN hi hx hf) (q _ (r.set rv i))
theorem gxs_nil : GXs X [] G [] G := ⟨_, pgs_nil, fun vs σ F H Q r _ rv q => ⟨rv, q _ r⟩⟩
theorem gxs_cons (h : GX X tg G d G1) (hr : GXs X tgs G1 ds G2) (hs : (assignEach (tg :: tgs) X.env).map (·.2) = assign tg X.env :: (assignEach tgs X.env).map (·.2) := by rfl) : GXs X (tg :: tgs) G (d :: ds) G2 := by
  obtain ⟨gs, ps, hr⟩ := hr
  refine ⟨_, pgs_cons pg_w ps hs, fun vs σ F H Q r sb rv q => ?_⟩
  obtain ⟨v, rest, rfl, r1, r2⟩ := rv
  exact ⟨v, rest, rfl, h v σ F H _ r sb r1 fun σ' r' => hr rest σ' F H _ r' sb r2 q⟩
theorem gx_tup {k : Nat} (hc : X.calm = true) (h : GXs X es G ds G1) (hn : (assignEach es X.env).length = ds.length := by rfl) (hst : (assignEach es X.env).findIdx? (·.1) = none := by rfl) : GX X (.Tuple es k pos) G (.tup ds) G1 := by
  obtain ⟨g, p, h⟩ := h
  refine fun v σ F H Q r sb rv q => w_g (pg_tup hc p hn hst) ?_
  obtain ⟨a, vs, rfl, h1, h2⟩ := rv
  exact ⟨a, vs, rfl, sb.sqT h1, h2.len, h vs σ F H Q r sb h2 q⟩
end
/-- what an iterator yields, by data -/
def ItD (K : PySem.W.Frag) (J : It) (F : Hp) (ds : List Dt) : Prop := ∀ (F1 H : Hp) (M : Mst), Sub F F1 → Sta K F1 M H →
  (∀ (i : Nat) d, ds[i]? = some d → J.go i H ∧ ∀ x H', J.yld i H x H' → ∃ F', Gr (dom M) F1 H F' H' ∧ Sta K F' M H' ∧ Rep K F' d x) ∧ ∀ i : Nat, ds.length ≤ i → J.stop i H
def IX (X : Cx) (tg iter : Expr) (G : List (Option Dt)) (M : Mst) (ds : List Dt) (M1 : Mst) : Prop := dom M1 = dom M ∧ ∃ wi : TI, PI X tg iter wi ∧
  ∀ (σ : L2.St) (F H : Hp) (R : It → Hp → Prop), RepS X.K F σ G → Sta X.K F M H → (∀ J F' H', Gr (dom M) F H F' H' → Sta X.K F' M1 H' → ItD X.K J F' ds → R J H') → wi σ H R
theorem itd_list {K : PySem.W.Frag} {F : Hp} {a : Addr} {vs : List V} {ds : List Dt} (h : SqL K F a vs) (r : Reps K F ds vs) : ItD K (Itl K a) F ds := fun F1 H M sb s => by
  have hH : SqL K H a vs := (sb.trans s.sub).sqL h
  refine ⟨fun i d hd => ?_, fun i hi => ⟨vs, hH, by rw [r.len]; exact hi⟩⟩
  obtain ⟨v, h1, h2⟩ := r.get hd
  refine ⟨⟨vs, v, hH, h1⟩, fun x H' hy => ?_⟩
  obtain ⟨rfl, hx⟩ := hy
  have e : x = v := Option.some.inj ((hx vs hH).symm.trans h1)
  subst e
  exact ⟨F1, Gr.refl _ _ _, s, Rep.mono sb d h2⟩
theorem itd_tup {K : PySem.W.Frag} {F : Hp} {a : Addr} {vs : List V} {ds : List Dt} (h : SqT K F a vs) (r : Reps K F ds vs) : ItD K (Itt K a) F ds := fun F1 H M sb s => by
  have hH : SqT K H a vs := (sb.trans s.sub).sqT h
  refine ⟨fun i d hd => ?_, fun i hi => ⟨vs, hH, by rw [r.len]; exact hi⟩⟩
  obtain ⟨v, h1, h2⟩ := r.get hd
  refine ⟨⟨vs, v, hH, h1⟩, fun x H' hy => ?_⟩
  obtain ⟨rfl, hx⟩ := hy
  have e : x = v := Option.some.inj ((hx vs hH).symm.trans h1)
  subst e
  exact ⟨F1, Gr.refl _ _ _, s, Rep.mono sb d h2⟩
/-- lo, lo + 1, .. -/
def rng (lo : Int) : Nat → List Dt
  | 0 => []
  | n + 1 => .int lo :: rng (lo + 1) n
theorem rng_len (lo : Int) : ∀ n, (rng lo n).length = n
  | 0 => rfl
  | n + 1 => by simp [rng, rng_len (lo + 1) n]
theorem rng_get : ∀ (n : Nat) (lo : Int) (i : Nat), i < n → (rng lo n)[i]? = some (.int (lo + i))
  | 0, _, _, h => by omega
  | n + 1, lo, 0, _ => by simp [rng]
  | n + 1, lo, i + 1, h => by
    have := rng_get n (lo + 1) i (by omega)
    simp only [rng, List.getElem?_cons_succ, this]
    congr 2
    omega
theorem itd_range {K : PySem.W.Frag} {F : Hp} {lo : Int} {n : Nat} : ItD K (Itr lo n) F (rng lo n) := fun F1 H M sb s => by
  refine ⟨fun i d hd => ?_, fun i hi => by rw [rng_len] at hi; exact hi⟩
  have hi : i < n := by
    have := (List.getElem?_eq_some_iff.mp hd).1
    rw [rng_len] at this
    exact this
  rw [rng_get n lo i hi] at hd
  have e : d = .int (lo + i) := (Option.some.inj hd).symm
  subst e
  refine ⟨hi, fun x H' hy => ?_⟩
  obtain ⟨rfl, rfl⟩ := hy
  exact ⟨F1, Gr.refl _ _ _, s, rfl⟩
section
variable {X : Cx} {tg iter e : Expr} {es : List Expr} {G : List (Option Dt)} {M M1 : Mst} {ds : List Dt} {pos apos : Pos}
theorem ix_lst (h : EX X iter G M (.lst ds) M1) : IX X tg iter G M ds M1 := ⟨h.1, _, pi_list pe_w, fun σ F H R rs s q => h.2 σ F H _ rs s fun v F1 H1 g1 s1 r1 => by
  obtain ⟨a, vs, rfl, h1, h2⟩ := r1
  exact ⟨a, rfl, ⟨vs, s1.sub.sqL h1⟩, q _ F1 H1 g1 s1 (itd_list h1 h2)⟩⟩
theorem ix_tup (h : EX X iter G M (.tup ds) M1) : IX X tg iter G M ds M1 := ⟨h.1, _, pi_tup pe_w, fun σ F H R rs s q => h.2 σ F H _ rs s fun v F1 H1 g1 s1 r1 => by
  obtain ⟨a, vs, rfl, h1, h2⟩ := r1
  exact ⟨a, rfl, ⟨vs, s1.sub.sqT h1⟩, q _ F1 H1 g1 s1 (itd_tup h1 h2)⟩⟩
theorem ix_range {n : Int} (hm : X.mg "range" = none) (h : AX X [e] G M [.int n] M1) (hb : -(2 ^ 62) ≤ n ∧ n < 2 ^ 62) (hg : Gl X "range" := by rfl)
    (he : starEach [e] X.env = (false, eval e X.env) :: starEach [] X.env := by rfl) : IX X tg (.Call (.Name "range" apos) [e] [] pos) G M (rng 0 n.toNat) M1 :=
  ⟨h.1, _, pi_range1 hg hm pa_w he, fun σ F H R rs s q => h.2 σ F H _ rs s fun vs F1 H1 g1 s1 r1 => by
    obtain ⟨v, r, rfl, r2, r3⟩ := r1
    have r2 : v = .int n := r2
    have r3 : r = [] := r3
    subst r2 r3
    exact ⟨n, rfl, hb.1, hb.2, q _ F1 H1 g1 s1 itd_range⟩⟩
end

/-! ### statements -/
/-- a state, as a ground to speak from -/
structure Bs where
  F : Hp
  H : Hp
  m : List Addr
def Now (K : PySem.W.Frag) (B : Bs) (G : List (Option Dt)) (M : Mst) (σ : L2.St) (H : Hp) : Prop := ∃ F, Gr B.m B.F B.H F H ∧ Sta K F M H ∧ RepS K F σ G ∧ ∀ a ∈ dom M, a ∈ B.m ∨ B.H a = none
/-- what is wanted behind a statement -/
structure Po where
  nx : List (Option Dt) → Mst → Prop
  rt : Dt → Mst → Prop := fun _ _ => False
  er : List (Option Dt) → Er := fun _ => E00
  bk : List (Option Dt) → Mst → Prop := fun _ _ => False
  ct : List (Option Dt) → Mst → Prop := fun _ _ => False
structure EndsD (K : PySem.W.Frag) (B : Bs) (T : Po) (D : Ends) : Prop where
  nx : ∀ G M σ H, T.nx G M → Now K B G M σ H → D.nx σ H
  rt : ∀ d M v F H, T.rt d M → (∀ a ∈ dom M, a ∈ B.m ∨ B.H a = none) → Gr B.m B.F B.H F H → Sta K F M H → Rep K F d v → D.rt v H
  bk : ∀ G M σ H, T.bk G M → Now K B G M σ H → D.bk σ H
  ct : ∀ G M σ H, T.ct G M → Now K B G M σ H → D.ct σ H
/-- the exceptions that leave -/
def ErrD (K : PySem.W.Frag) (X : Cx) (B : Bs) (Z : List (Option Dt) → Er) : Prop := ∃ W : WX, L2N.Takes X W ∧
  ∀ G C ks fs M dd ws σ F H, Z G C ks fs M → (∀ a ∈ dom M, a ∈ B.m ∨ B.H a = none) → Gr B.m B.F B.H F H → Sta K F M H → RepS K F σ G → F dd = some (.xd (ks.zip ws)) → ks.length = ws.length → Reps K F fs ws → W (.ref C) (some dd) σ H
def SS (X : Cx) (sts : List Stmt) (G : List (Option Dt)) (M : Mst) (T : Po) : Prop := ∀ (B : Bs) (σ : L2.St) (H : Hp) (D : Ends), EndsD X.K B T D → ErrD X.K X B T.er → Now X.K B G M σ H → wSs X sts D σ H
def S1 (X : Cx) (st : Stmt) (G : List (Option Dt)) (M : Mst) (T : Po) : Prop := ∀ (B : Bs) (σ : L2.St) (H : Hp) (D : Ends), EndsD X.K B T D → ErrD X.K X B T.er → Now X.K B G M σ H → wS X st D σ H
section
variable {K : PySem.W.Frag} {B : Bs} {F H F' H' : Hp} {G : List (Option Dt)} {M M' : Mst} {σ : L2.St}
theorem Now.go (h : Gr B.m B.F B.H F H) (hm : ∀ a ∈ dom M, a ∈ B.m ∨ B.H a = none) (hd : dom M' = dom M) (g : Gr (dom M) F H F' H') (s : Sta K F' M' H') (r : RepS K F' σ G) : Now K B G M' σ H' :=
  ⟨F', h.trans g hm, s, r, by rw [hd]; exact hm⟩
/-- from a later ground -/
theorem Now.base {B' : Bs} (g : Gr B.m B.F B.H B'.F B'.H) (hm : ∀ a ∈ B'.m, a ∈ B.m ∨ B.H a = none) (h : Now K B' G M σ H) : Now K B G M σ H := by
  obtain ⟨F, g1, s, r, m⟩ := h
  exact ⟨F, g.trans g1 hm, s, r, fun a ha => (m a ha).elim (hm a) fun z => .inr (g.free z)⟩
end

section
variable {X : Cx} {e c tg : Expr} {st : Stmt} {sts as bs : List Stmt} {G G1 : List (Option Dt)} {M M1 : Mst} {T : Po} {d : Dt} {ds : List Dt} {pos tpos : Pos} {x : Str} {k : Bool}
theorem ss_nil (h : T.nx G M) : SS X [] G M T := fun B σ H D hD _ hN => w_ss pss_nil (hD.nx G M σ H h hN)
theorem ss_cons (h : S1 X st G M { T with nx := fun G' M' => SS X sts G' M' T }) : SS X (st :: sts) G M T := fun B σ H D hD hE hN =>
  w_ss (pss_cons ps_w pss_w) (h B σ H { D with nx := wSs X sts D } ⟨fun G' M' σ' H' hs hN' => hs B σ' H' D hD hE hN', hD.rt, hD.bk, hD.ct⟩ hE hN)
theorem ss_one (h : S1 X st G M T) : SS X [st] G M T := fun B σ H D hD hE hN => w_ss (pss_one ps_w) (h B σ H D hD hE hN)
theorem s1_asg (he : EX X e G M d M1) (hg : GX X tg G d G1) (h : T.nx G1 M1) (hs : swapsWithSole [tg] e pos.line X.env = pure false := by rfl) (hw : swappedStores [tg] e X.env = pure none := by rfl)
    (h1 : (assignEach [tg] X.env).map (·.2) = [assign tg X.env] := by rfl) : S1 X (.Assign [tg] e pos) G M T := fun B σ H D hD hE ⟨F, g0, s0, r0, m0⟩ => by
  refine w_s (ps_asg pe_w pg_w hs hw h1) (he.2 σ F H _ r0 s0 fun v F1 H1 g1 s1 r1 => hg v σ F1 H1 _ (r0.mono g1.sub) s1.sub r1 fun σ' r' => ?_)
  exact hD.nx G1 M1 σ' H1 h (Now.go g0 m0 he.1 g1 s1 r')
theorem s1_set (i : Nat) (hN : X.N.Nodup) (he : EX X e G M d M1) (h : T.nx (G.set i (some d)) M1) (hi : X.N[i]? = some x := by rfl) (hx : Loc X.env.scope x := by first | exact Or.inl rfl | exact Or.inr rfl)
    (hs : swapsWith e (some (.Name x tpos)) pos.line X.env = pure false := by rfl) (hf : X.fn x = true ∨ X.env.scope.names.lookup x = some .local := by first | exact .inl rfl | exact .inr rfl | assumption) : S1 X (.Assign [.Name x tpos] e pos) G M T :=
  fun B σ H D hD hE ⟨F, g0, s0, r0, m0⟩ => w_s (ps_set hN hi hx pe_w hs hf) (he.2 σ F H _ r0 s0 fun v F1 H1 g1 s1 r1 => hD.nx _ M1 _ H1 h (Now.go g0 m0 he.1 g1 s1 ((r0.mono g1.sub).set r1 i)))
theorem s1_expr (he : EX X e G M d M1) (h : T.nx G M1) (hs : swapsWith e none pos.line X.env = pure false := by rfl) : S1 X (.Expr e pos) G M T :=
  fun B σ H D hD hE ⟨F, g0, s0, r0, m0⟩ => w_s (ps_expr pe_w hs) (he.2 σ F H _ r0 s0 fun v F1 H1 g1 s1 r1 => hD.nx _ M1 _ H1 h (Now.go g0 m0 he.1 g1 s1 (r0.mono g1.sub)))
theorem s1_ret (he : EX X e G M d M1) (h : T.rt d M1) : S1 X (.Return (some e) pos) G M T :=
  fun B σ H D hD hE ⟨F, g0, s0, r0, m0⟩ => w_s (ps_ret pe_w) (he.2 σ F H _ r0 s0 fun v F1 H1 g1 s1 r1 => hD.rt d M1 v F1 H1 h (by rw [he.1]; exact m0) (g0.trans g1 m0) s1 r1)
theorem s1_retN (h : T.rt .non M) : S1 X (.Return none pos) G M T :=
  fun B σ H D hD hE ⟨F, g0, s0, r0, m0⟩ => w_s ps_retN (hD.rt .non M .non F H h m0 g0 s0 rfl)
theorem s1_if (hc : TX X c G M k M1) (ha : k = true → SS X as G M1 T) (hb : k = false → SS X bs G M1 T) : S1 X (.If c as bs pos) G M T :=
  fun B σ H D hD hE ⟨F, g0, s0, r0, m0⟩ => w_s (ps_if pt_w pss_w pss_w) (hc.2 σ F H _ r0 s0 fun F1 H1 g1 s1 => by
    have hN := Now.go g0 m0 hc.1 g1 s1 (r0.mono g1.sub)
    cases k with
    | true => exact iteT (ha rfl B σ H1 D hD hE hN)
    | false => exact iteF (hb rfl B σ H1 D hD hE hN))
theorem s1_pass (h : T.nx G M) : S1 X (.Pass pos) G M T := fun B σ H D hD _ hN => w_s ps_pass (hD.nx G M σ H h hN)
/-- a for by an invariant over the turn -/
theorem s1_for {iter : Expr} (I : Nat → List (Option Dt) → Mst → Prop) (hi : IX X tg iter G M ds M1) (hc : X.calm = true) (h0 : I 0 G M1)
    (hs : ∀ (i : Nat) d G' M', ds[i]? = some d → I i G' M' → ∃ G2, GX X tg G' d G2 ∧ SS X sts G2 M' { T with nx := I (i + 1), ct := I (i + 1), bk := T.nx })
    (hd : ∀ G' M', I ds.length G' M' → T.nx G' M') (hdom : ∀ i G' M', I i G' M' → dom M' = dom M) (hp : PassesOwn (model X.prog X.w) X.A X.env X.xe) (hsf : ∀ x, foldedSetIterable iter X.env x = pure x := by intro _; rfl) :
    S1 X (.For tg iter sts [] pos) G M T := fun B σ H D hD hE ⟨F, g0, s0, r0, m0⟩ => by
  obtain ⟨hM1, wi, pi, hi⟩ := hi
  refine w_s (ps_for hp hc pi pg_w pss_w hsf) (hi σ F H _ r0 s0 fun J F1 H1 g1 s1 it => ?_)
  have G1' := g0.trans g1 m0
  refine ⟨fun i m σ' H' => m = ds.length - i ∧ i ≤ ds.length ∧ ∃ G' M' F', I i G' M' ∧ Sub F1 F' ∧ Gr B.m B.F B.H F' H' ∧ Sta X.K F' M' H' ∧ RepS X.K F' σ' G', ⟨ds.length, by simp, Nat.zero_le _, G, M1, F1, h0, Sub.refl _, G1', s1, r0.mono g1.sub⟩, ?_⟩
  rintro i m σ' H' ⟨rfl, hle, G', M', F', hI, sb, gB, s', r'⟩
  have dM := hdom i G' M' hI
  have m' : ∀ a ∈ dom M', a ∈ B.m ∨ B.H a = none := by rw [dM]; exact m0
  have K1 := it F' H' M' sb s'
  by_cases hlt : i < ds.length
  · right
    obtain ⟨d, hdi⟩ : ∃ d, ds[i]? = some d := ⟨ds[i], List.getElem?_eq_getElem hlt⟩
    obtain ⟨go, yl⟩ := K1.1 i d hdi
    obtain ⟨G2, hgx, hss⟩ := hs i d G' M' hdi hI
    refine ⟨go, fun σ2 H2 => ∃ G3 M3 F3, I (i + 1) G3 M3 ∧ Sub F1 F3 ∧ Gr B.m B.F B.H F3 H2 ∧ Sta X.K F3 M3 H2 ∧ RepS X.K F3 σ2 G3, fun σ2 H2 hn => ⟨ds.length - (i + 1), by omega, rfl, by omega, hn⟩, fun x H2 hy => ?_⟩
    obtain ⟨F2, g2, s2, r2⟩ := yl x H2 hy
    refine hgx x σ' F2 H2 _ (r'.mono g2.sub) s2.sub r2 fun σ2 rs2 => ?_
    -- the turn, from here: the walked thing stands in F2
    have gB2 := gB.trans g2 m'
    have stepN : ∀ G3 M3 σ3 H3, I (i + 1) G3 M3 → Now X.K ⟨F2, H2, dom M'⟩ G3 M3 σ3 H3 → ∃ G3 M3 F3, I (i + 1) G3 M3 ∧ Sub F1 F3 ∧ Gr B.m B.F B.H F3 H3 ∧ Sta X.K F3 M3 H3 ∧ RepS X.K F3 σ3 G3 := fun G3 M3 σ3 H3 hI3 hN => by
      obtain ⟨F3, g3, s3, r3, _⟩ := hN
      exact ⟨G3, M3, F3, hI3, (sb.trans g2.sub).trans g3.sub, gB2.trans g3 m', s3, r3⟩
    refine hss ⟨F2, H2, dom M'⟩ σ2 H2 _ ⟨stepN, fun d M3 v F3 H3 ht hm g3 s3 r3 => hD.rt d M3 v F3 H3 ht (fun a ha => (hm a ha).elim (m' a) fun z => .inr (gB2.free z)) (gB2.trans g3 m') s3 r3, fun G3 M3 σ3 H3 ht hN => hD.nx G3 M3 σ3 H3 ht (hN.base gB2 m'), stepN⟩ ?_ ⟨F2, Gr.refl _ _ _, s2, rs2, fun a ha => .inl ha⟩
    obtain ⟨E, tk, hE⟩ := hE
    exact ⟨E, tk, fun G3 C ks fs M3 dd ws σ3 F3 H3 hz hm g3 s3 rs3 h1 h2 h3 => hE G3 C ks fs M3 dd ws σ3 F3 H3 hz (fun a ha => (hm a ha).elim (m' a) fun z => .inr (gB2.free z)) (gB2.trans g3 m') s3 rs3 h1 h2 h3⟩
  · left
    have hie : i = ds.length := by omega
    exact ⟨K1.2 i (by omega), hD.nx G' M' σ' H' (hd G' M' (hie ▸ hI)) ⟨F', gB, s', r', m'⟩⟩
/-- a while by an invariant and a measure over data -/
theorem s1_while (I : Nat → List (Option Dt) → Mst → Prop) (n0 : Nat) (h0 : I n0 G M)
    (hs : ∀ n G' M', I n G' M' → ∃ k, TX X c G' M' k M' ∧ (k = true → SS X sts G' M' { T with nx := fun G2 M2 => ∃ n', n' < n ∧ I n' G2 M2, ct := fun G2 M2 => ∃ n', n' < n ∧ I n' G2 M2, bk := T.nx }) ∧ (k = false → T.nx G' M'))
    (hp : PassesOwn (model X.prog X.w) X.A X.env X.xe) : S1 X (.While c sts [] pos) G M T := fun B σ H D hD hE hN => by
  refine w_s (ps_while hp pt_w pss_w) ⟨fun n σ' H' => ∃ G' M', I n G' M' ∧ Now X.K B G' M' σ' H', ⟨n0, G, M, h0, hN⟩, ?_⟩
  rintro n σ' H' ⟨G', M', hI, F, g0, s0, r0, m0⟩
  obtain ⟨k, hc, ht, hf⟩ := hs n G' M' hI
  refine hc.2 σ' F H' _ r0 s0 fun F1 H1 g1 s1 => ?_
  have hN1 : Now X.K B G' M' σ' H1 := Now.go g0 m0 rfl g1 s1 (r0.mono g1.sub)
  cases k with
  | true =>
    refine iteT ⟨fun σ2 H2 => ∃ n', n' < n ∧ ∃ G2 M2, I n' G2 M2 ∧ Now X.K B G2 M2 σ2 H2, fun σ2 H2 ⟨n', hlt, h⟩ => ⟨n', hlt, h⟩, ?_⟩
    exact ht rfl B σ' H1 _ ⟨fun G2 M2 σ2 H2 ⟨n', hlt, hI2⟩ hN2 => ⟨n', hlt, G2, M2, hI2, hN2⟩, hD.rt, hD.nx, fun G2 M2 σ2 H2 ⟨n', hlt, hI2⟩ hN2 => ⟨n', hlt, G2, M2, hI2, hN2⟩⟩ hE hN1
  | false => exact iteF (hD.nx G' M' σ' H1 (hf rfl) hN1)
end

/-! ### defs -/
section
variable {P : Program} {w : World} {K : PySem.W.Frag} {mg : Str → Option Value} {base : Heap} {k : Nat} {f : Addr} {fd : FuncData} {x qual : Str} {st : Stmt} {N ps : List Str} {W : Ct}
/-- the context of a def's body -/
abbrev Xd (P : Program) (w : World) (K : PySem.W.Frag) (mg : Str → Option Value) (base : Heap) (N : List Str) (qual : Str) (st : Stmt) (f : Addr) (cdv : Value) (A : Around) (outer : List Env) (s : Shared) (H : Hp) (E : XK) : Cx :=
  cxOf (L2N.CX P w) P w K mg base N qual (defScope st) f cdv A outer s H E
/-- the lists that were there at the entry, told at a def's end -/
def Kept (M : Mst) (R : Mst → Prop) (M' : Mst) : Prop := ∃ N M'', M' = N ++ M'' ∧ dom M'' = dom M ∧ R M''
theorem Kept.of {M M' : Mst} {R : Mst → Prop} (h : R M') (hd : dom M' = dom M := by rfl) : Kept M R M' := ⟨[], M', rfl, hd, h⟩
abbrev PoF (M : Mst) (R : Dt → Mst → Prop) (Z : Er) : Po := { nx := fun _ => Kept M (R .non), rt := fun d => Kept M (R d), er := fun _ C ks fs => Kept M (Z C ks fs) }
theorem Sta.drop {K : PySem.W.Frag} {F H : Hp} {N M : Mst} (s : Sta K F (N ++ M) H) : Sta K F M H :=
  ⟨s.sub, fun p hp => s.mt p (List.mem_append_right _ hp), fun p hp => s.off p (List.mem_append_right _ hp), by
    have := s.nd
    unfold dom at this ⊢
    rw [List.map_append] at this
    exact (List.nodup_append.mp this).2.1⟩
/-- what is to be shown of a def's body -/
def BodyOk (P : Program) (w : World) (K : PySem.W.Frag) (mg : Str → Option Value) (base : Heap) (N ps : List Str) (qual : Str) (st : Stmt) (k : Nat) (W : Ct) : Prop :=
  ∀ (f : Addr) (cdv : Value) (A : Around) (outer : List Env) (s : Shared) (H : Hp) (E : XK) (ds : List Dt) (M : Mst) (R : Dt → Mst → Prop) (Z : Er), Room k (Xd P w K mg base N qual st f cdv A outer s H E).A → ds.length = ps.length → W ds M R Z →
    SS (Xd P w K mg base N qual st f cdv A outer s H E) (defBody st) (ds.map some ++ List.replicate (N.length - ds.length) none) M (PoF M R Z)
theorem fn_okN (F : Fun K x qual st f fd) (S : FnScope N ps (defScope st)) (hlen : ∀ ds M R Z, W ds M R Z → ds.length = ps.length) (h : BodyOk P w K mg base N ps qual st k W) : FnOk P w K mg base (L2N.CX P w) (k + 1) f fd ps (spC K W) := by
  obtain ⟨oc, od, kV, doc, pm, an, cdv, ct, osl, rfl, lk, hcd⟩ := F.ex
  refine fn_of lk hcd S (fun vs H Q E hs => ?_) fun A outer s H vs Q E hr hs => ⟨_, pss_w, ?_⟩
  · obtain ⟨F', M, ds, R, Z, _, r, hw, _⟩ := hs
    rw [r.len]
    exact hlen ds M R Z hw
  · obtain ⟨F', M, ds, R, Z, s0, r, hw, hq, he⟩ := hs
    have hl := hlen ds M R Z hw
    have z := h f cdv A outer s H E ds M R Z hr hl hw ⟨F', H, dom M⟩ (L2.start N vs) H { nx := fun _ H' => Q .non H', rt := Q }
    refine z ⟨fun G' M' σ' H' ⟨N', M2, e, hd, hR⟩ hN => ?_, fun d M' v F1 H1 ⟨N', M2, e, hd, hR⟩ hm g s1 rv => ?_, fun _ _ _ _ z _ => z.elim, fun _ _ _ _ z _ => z.elim⟩ ?_ ⟨F', Gr.refl _ _ _, s0, ?_, fun a ha => .inl ha⟩
    · obtain ⟨F1, g, s1, _, _⟩ := hN
      subst e
      exact hq .non M2 .non F1 H' hR hd g s1.drop rfl
    · subst e
      exact hq d M2 v F1 H1 hR hd g s1.drop rv
    · refine ⟨fun cls d _ H => E cls d H, L2N.takes_of rfl rfl rfl rfl, fun G' C ks fs M' dd ws σ' F1 H1 ⟨N', M2, e, hd, hZ⟩ hm g s1 _ h1 h2 h3 => ?_⟩
      subst e
      exact he C ks fs M2 dd ws F1 H1 hZ hd g s1.drop h1 h2 h3
    · unfold L2.start
      rw [r.len]
      exact RepS.start r _
theorem fn_body (F : Fun K x qual st f fd) (S : FnScope N ps (defScope st)) (hb : Binds K fd ps []) (hlen : ∀ ds M R Z, W ds M R Z → ds.length = ps.length) (h : BodyOk P w K mg base N ps qual st k W) : FnR P w K mg base (L2N.CX P w) (k + 1) f (spC K W) := by
  have G := fn_okN F S hlen h
  intro A outer s H us vs Q E hr e0 rv hs
  have := (FnOk.raw (dvs := []) G hb .nil) A outer s H us vs Q E hr e0 rv (by show spC K W (vs ++ []) H Q E; rw [List.append_nil]; exact hs)
  exact this
end
end HM

set_option Elab.async false
set_option linter.all false
set_option maxRecDepth 100000
set_option maxHeartbeats 4000000
/-! HM4: built-in operations by data. -/
namespace HM
open PySem PySem.Spec PyProof.Rows L2
def Dt.kn : Dt → Bool
  | .raw _ => false
  | .exc _ _ _ => false
  | .cau _ _ _ _ _ => false
  | .fn _ _ _ _ => false
  | _ => true
def tyS : Dt → String
  | .non => "NoneType" | .bl _ => "bool" | .int _ => "int" | .str _ => "str" | .tup _ => "tuple" | .lst _ => "list" | .dic _ _ => "dict" | .raw _ => "?" | .exc _ _ _ => "?" | .cau _ _ _ _ _ => "?" | .fn _ _ _ _ => "?"
def isI : Dt → Bool
  | .int _ => true | .bl _ => true | _ => false
def isB : Dt → Bool
  | .bl _ => true | _ => false
def isS : Dt → Bool
  | .str _ => true | _ => false
def isT : Dt → Bool
  | .tup _ => true | _ => false
def isL : Dt → Bool
  | .lst _ => true | _ => false
def isD : Dt → Bool
  | .dic _ _ => true | _ => false
section
variable {K : PySem.W.Frag} {F H : Hp}
theorem tyx {d : Dt} {v : V} (sb : Sub F H) (hk : d.kn = true) (r : Rep K F d v) : TyX K H v (.type (tyS d)) := by
  cases d with
  | non => rw [show v = .non from r]; exact .base .non
  | bl b => rw [show v = .bl b from r]; exact .base (.bl b)
  | int i => rw [show v = .int i from r]; exact .base (.int i)
  | str x => rw [show v = .str x from r]; exact .base (.str x)
  | raw w => cases hk
  | exc C ks l => cases hk
  | cau a dd C ks l => cases hk
  | fn f L l vs => cases hk
  | tup l =>
    obtain ⟨a, vs, rfl, h, _⟩ := r
    rcases h with (h | ⟨o, h⟩) | ⟨o, its, n, h1, h2, _⟩
    · exact .base (.tup (sb _ _ h))
    · exact .fTuple (sb _ _ h)
    · exact .kTuple h1 h2
  | lst l =>
    obtain ⟨a, vs, rfl, h, _⟩ := r
    rcases h with (h | ⟨o, h⟩) | ⟨o, its, n, h1, h2, _⟩
    · exact .base (.lst (sb _ _ h))
    · exact .base (.frz (sb _ _ h))
    · exact .kList h1 h2
  | dic ks l =>
    obtain ⟨a, vs, rfl, h, _⟩ := r
    exact .base (.dK (sb _ _ h))
theorem isi_D {d : Dt} {T : String} {b : Bool} (hk : d.kn = true) (h : kitB (tyS d) T = some b) : CallD K (rIsi K) [d, .raw (.ty T)] (.bl b) := CallD.now fun F H vs Q sb r q => by
  obtain ⟨v, r1, rfl, r2, v2, r3, rfl, r4, r5⟩ := r
  have e4 : v2 = .ty T := r4
  have e5 : r3 = [] := r5
  subst e4 e5
  exact ⟨v, .ty T, _, _, b, rfl, .ty T, tyx sb hk r2, kit_ty h, q _ rfl⟩
theorem isi_I {d : Dt} (hk : d.kn = true) : CallD K (rIsi K) [d, .raw (.ty "int")] (.bl (isI d)) := by
  cases d <;> first
    | (cases hk; done)
    | exact isi_D rfl (by kernel_rfl)
theorem isi_B {d : Dt} (hk : d.kn = true) : CallD K (rIsi K) [d, .raw (.ty "bool")] (.bl (isB d)) := by
  cases d <;> first
    | (cases hk; done)
    | exact isi_D rfl (by kernel_rfl)
theorem isi_S {d : Dt} (hk : d.kn = true) : CallD K (rIsi K) [d, .raw (.ty "str")] (.bl (isS d)) := by
  cases d <;> first
    | (cases hk; done)
    | exact isi_D rfl (by kernel_rfl)
theorem isi_T {d : Dt} (hk : d.kn = true) : CallD K (rIsi K) [d, .raw (.ty "tuple")] (.bl (isT d)) := by
  cases d <;> first
    | (cases hk; done)
    | exact isi_D rfl (by kernel_rfl)
theorem isi_L {d : Dt} (hk : d.kn = true) : CallD K (rIsi K) [d, .raw (.ty "list")] (.bl (isL d)) := by
  cases d <;> first
    | (cases hk; done)
    | exact isi_D rfl (by kernel_rfl)
theorem isi_Di {d : Dt} (hk : d.kn = true) : CallD K (rIsi K) [d, .raw (.ty "dict")] (.bl (isD d)) := by
  cases d <;> first
    | (cases hk; done)
    | exact isi_D rfl (by kernel_rfl)
end
section
variable {X : Cx} {e : Expr} {G : List (Option Dt)} {M M1 : Mst} {d : Dt} {pos p1 p2 : Pos} {x : Str}
theorem ex_ty {T : String} (hm : X.mg x = none) (hg : Gl X x := by rfl) (hv : bootBuiltins x = some (.type T) := by decide +kernel) (hn : x ≠ "__name__" := by decide) (hdb : (x == ("__debug__" : Str)) = false := by decide) : EX X (.Name x pos) G M (.raw (.ty T)) M :=
  EE.now fun σ F H Q _ _ q => w_e (pe_bltn (v := .ty T) hg hm hv rfl hn hdb) (q _ rfl)
/-- isinstance(e, T) -/
theorem ex_isi {T : String} {b : Bool} (h : CallD X.K (rIsi X.K) [d, .raw (.ty T)] (.bl b)) (hi : X.mg "isinstance" = none) (hm : X.mg x = none) (ha : EX X e G M d M1) (hgi : Gl X "isinstance" := by rfl) (hg : Gl X x := by rfl) (hv : bootBuiltins x = some (.type T) := by decide +kernel)
    (hn : x ≠ "__name__" := by decide) (hdb : (x == ("__debug__" : Str)) = false := by decide)
    (he : starEach [e, .Name x p2] X.env = (false, eval e X.env) :: starEach [.Name x p2] X.env := by rfl) (he2 : starEach [.Name x p2] X.env = (false, eval (.Name x p2) X.env) :: starEach [] X.env := by rfl) (hpl : (backTo pos (starEach [.Name x p2] X.env)).any (·.1) = false := by rfl) :
    EX X (.Call (.Name "isinstance" p1) [e, .Name x p2] [] pos) G M (.bl b) M1 :=
  ex_callB call_isi h hi (ax_cons ha (ax_cons (ex_ty hm hg hv hn hdb) ax_nil he2) he) hgi boot_isinstance (by decide) (by decide) he hpl
end

/-! ### operators, found by a tactic -/
def OpOk (X : Cx) (op : Operator) (d1 d2 d : Dt) : Prop := ∃ r, OpR X (binaryOp op) r ∧ OpD X.K r d1 d2 d
def CmpOk (X : Cx) (op : CmpOp) (d1 d2 d : Dt) : Prop := ∃ r, OpR X (compareOp op) r ∧ OpD X.K r d1 d2 d
def IxOk (X : Cx) (d1 d2 d : Dt) : Prop := ∃ r, IxR X r ∧ OpD X.K r d1 d2 d
section
variable {X : Cx} {e a b : Expr} {G : List (Option Dt)} {M M1 M2 : Mst} {d d1 d2 : Dt} {pos : Pos} {k : Bool} {i j : Int} {s t : Str}
theorem ex_bin {op : Operator} (ha : EX X a G M d1 M1) (hb : EX X b G M1 d2 M2) (h : OpOk X op d1 d2 d) : EX X (.BinOp a op b pos) G M d M2 := by
  obtain ⟨r, h1, h2⟩ := h
  exact ex_op h1 h2 ha hb
theorem ex_cp {op : CmpOp} (ha : EX X a G M d1 M1) (hb : EX X b G M1 d2 M2) (h : CmpOk X op d1 d2 d) (hm : behindInMarks op b = false := by first | exact nomark _ | rfl) : EX X (.Compare a [op] [b] pos) G M d M2 := by
  obtain ⟨r, h1, h2⟩ := h
  exact ex_cmp h1 h2 ha hb hm
theorem tx_cp {op : CmpOp} (ha : EX X a G M d1 M1) (hb : EX X b G M1 d2 M2) (h : CmpOk X op d1 d2 (.bl k)) (hm : behindInMarks op b = false := by first | exact nomark _ | rfl) : TX X (.Compare a [op] [b] pos) G M k M2 := by
  obtain ⟨r, h1, h2⟩ := h
  exact tx_cmp h1 h2 ha hb hm
theorem ex_at (ha : EX X a G M d1 M1) (hb : EX X b G M1 d2 M2) (h : IxOk X d1 d2 d) (hs : PlainIx b := by exact fun _ _ => rfl) : EX X (.Subscript a b pos) G M d M2 := by
  obtain ⟨r, h1, h2⟩ := h
  exact ex_ix h1 h2 ha hb hs
-- ints
theorem o_add : OpOk X .Add (.int i) (.int j) (.int (i + j)) := ⟨_, op_add, opInt0⟩
theorem o_sub : OpOk X .Sub (.int i) (.int j) (.int (i - j)) := ⟨_, op_sub, opInt0⟩
theorem o_mul (h : CMulX i j) : OpOk X .Mult (.int i) (.int j) (.int (i * j)) := ⟨_, op_mulX, opInt h⟩
theorem o_div (h : CDivW i j) : OpOk X .FloorDiv (.int i) (.int j) (.int (i / j)) := ⟨_, op_fdivW, opInt h⟩
theorem o_mod (h : 0 < j) : OpOk X .Mod (.int i) (.int j) (.int (i % j)) := ⟨_, op_mod, opInt h⟩
theorem o_pow (h : CPow i j) : OpOk X .Pow (.int i) (.int j) (.int (i ^ j.toNat)) := ⟨_, op_pow, opInt h⟩
theorem o_shl (h : CShl i j) : OpOk X .LShift (.int i) (.int j) (.int (i * 2 ^ j.toNat)) := ⟨_, op_shlW, opInt h⟩
theorem o_shr (h : 0 ≤ j) : OpOk X .RShift (.int i) (.int j) (.int (i / 2 ^ j.toNat)) := ⟨_, op_shr, opInt h⟩
theorem o_and1 {n : Nat} : OpOk X .BitAnd (.int (n : Int)) (.int 1) (.int ((n % 2 : Nat) : Int)) := ⟨_, op_odd, OpD.now fun F H x y Q _ r1 r2 q => ⟨n, r1, r2, q _ rfl⟩⟩
theorem o_half {n : Nat} : OpOk X .RShift (.int (n : Int)) (.int 1) (.int ((n / 2 : Nat) : Int)) := ⟨_, op_halfN, OpD.now fun F H x y Q _ r1 r2 q => ⟨n, r1, r2, q _ rfl⟩⟩
theorem c_lt : CmpOk X .Lt (.int i) (.int j) (.bl (decide (i < j))) := ⟨_, op_lt, opBl0⟩
theorem c_le : CmpOk X .LtE (.int i) (.int j) (.bl (decide (i ≤ j))) := ⟨_, op_le, opBl0⟩
theorem c_gt : CmpOk X .Gt (.int i) (.int j) (.bl (decide (j < i))) := ⟨_, op_gt, opBl0⟩
theorem c_ge : CmpOk X .GtE (.int i) (.int j) (.bl (decide (j ≤ i))) := ⟨_, op_ge, opBl0⟩
theorem eqSc {u v : V} {d1 d2 : Dt} {k : Bool} (hs : scal u v = true) (e1 : ∀ F x, Rep X.K F d1 x → x = u) (e2 : ∀ F x, Rep X.K F d2 x → x = v) (hk : decide (u = v) = k) : CmpOk X .Eq d1 d2 (.bl k) :=
  ⟨_, op_eq, OpD.now fun F H x y Q _ r1 r2 q => by
    rw [e1 F x r1, e2 F y r2]
    exact ⟨hs, q _ (congrArg V.bl hk)⟩⟩
theorem neSc {u v : V} {d1 d2 : Dt} {k : Bool} (hs : scal u v = true) (e1 : ∀ F x, Rep X.K F d1 x → x = u) (e2 : ∀ F x, Rep X.K F d2 x → x = v) (hk : (!decide (u = v)) = k) : CmpOk X .NotEq d1 d2 (.bl k) :=
  ⟨_, op_ne, OpD.now fun F H x y Q _ r1 r2 q => by
    rw [e1 F x r1, e2 F y r2]
    exact ⟨hs, q _ (congrArg V.bl hk)⟩⟩
theorem c_eqI : CmpOk X .Eq (.int i) (.int j) (.bl (decide (i = j))) := eqSc (u := .int i) (v := .int j) rfl (fun _ _ h => h) (fun _ _ h => h) (by rw [dec_int, Bool.beq_eq_decide_eq])
theorem c_neI : CmpOk X .NotEq (.int i) (.int j) (.bl (!decide (i = j))) := neSc (u := .int i) (v := .int j) rfl (fun _ _ h => h) (fun _ _ h => h) (by rw [dec_int, Bool.beq_eq_decide_eq])
theorem c_eqS : CmpOk X .Eq (.str s) (.str t) (.bl (decide (s = t))) := eqSc (u := .str s) (v := .str t) rfl (fun _ _ h => h) (fun _ _ h => h) (by simp)
theorem c_neS : CmpOk X .NotEq (.str s) (.str t) (.bl (!decide (s = t))) := neSc (u := .str s) (v := .str t) rfl (fun _ _ h => h) (fun _ _ h => h) (by simp)
theorem c_eqB {p q : Bool} : CmpOk X .Eq (.bl p) (.bl q) (.bl (p == q)) := eqSc (u := .bl p) (v := .bl q) rfl (fun _ _ h => h) (fun _ _ h => h) dec_bl
theorem c_isN {d : Dt} (hk : d.kn = true) : CmpOk X .Is d .non (.bl (match d with | .non => true | _ => false)) := ⟨_, op_isN, OpD.now fun F H x y Q _ r1 r2 q => ⟨r2, q _ (by
  cases d with
  | non => rw [show x = .non from r1]; rfl
  | bl b => rw [show x = .bl b from r1]; rfl
  | int i => rw [show x = .int i from r1]; rfl
  | str z => rw [show x = .str z from r1]; rfl
  | raw w => cases hk
  | exc C ks l => cases hk
  | cau a dd C ks l => cases hk
  | fn f L l vs => cases hk
  | tup l => obtain ⟨a, vs, rfl, _⟩ := r1; rfl
  | lst l => obtain ⟨a, vs, rfl, _⟩ := r1; rfl
  | dic ks l => obtain ⟨a, vs, rfl, _⟩ := r1; rfl)⟩⟩
-- subscripts
theorem i_lst {l : List Dt} {n : Nat} {d : Dt} (h : l[n]? = some d) : IxOk X (.lst l) (.int (n : Int)) d := ⟨_, ix_list, OpD.now fun F H x y Q sb r1 r2 q => by
  obtain ⟨a, vs, rfl, h1, h2⟩ := r1
  obtain ⟨v, h3, h4⟩ := h2.get h
  exact ⟨a, vs, n, v, rfl, r2, sb.sqL h1, atI_nat h3, q v h4⟩⟩
theorem i_tup {l : List Dt} {n : Nat} {d : Dt} (h : l[n]? = some d) : IxOk X (.tup l) (.int (n : Int)) d := ⟨_, L2.ix_tup, OpD.now fun F H x y Q sb r1 r2 q => by
  obtain ⟨a, vs, rfl, h1, h2⟩ := r1
  obtain ⟨v, h3, h4⟩ := h2.get h
  exact ⟨a, vs, n, v, rfl, r2, sb.sqT h1, atI_nat h3, q v h4⟩⟩
-- len
theorem len_lst {l : List Dt} : CallD X.K (rLen X.K) [.lst l] (.int (l.length : Int)) := CallD.now fun F H vs Q sb r q => by
  obtain ⟨v, r1, rfl, ⟨a, ws, rfl, h1, h2⟩, r3⟩ := r
  have r3 : r1 = [] := r3
  subst r3
  exact ⟨_, l.length, rfl, .inl ⟨ws, sb.sqL h1, h2.len.symm⟩, q _ rfl⟩
theorem len_tup {l : List Dt} : CallD X.K (rLen X.K) [.tup l] (.int (l.length : Int)) := CallD.now fun F H vs Q sb r q => by
  obtain ⟨v, r1, rfl, ⟨a, ws, rfl, h1, h2⟩, r3⟩ := r
  have r3 : r1 = [] := r3
  subst r3
  exact ⟨_, l.length, rfl, .inr ⟨ws, sb.sqT h1, h2.len.symm⟩, q _ rfl⟩
theorem len_str {z : Str} (h : z.length ≤ 100000) : CallD X.K (rLen X.K) [.str z] (.int (z.length : Int)) := CallD.now fun F H vs Q sb r q => by
  obtain ⟨v, r1, rfl, rfl, r3⟩ := r
  have r3 : r1 = [] := r3
  subst r3
  exact ⟨_, z.length, rfl, ⟨Nat.le_trans h (by decide), rfl⟩, q _ rfl⟩
end
section
variable {X : Cx} {e : Expr} {es : List Expr} {G : List (Option Dt)} {M M1 : Mst} {d : Dt} {pos p1 p2 : Pos} {i j : Int}
theorem ex_len (h : CallD X.K (rLen X.K) [d] (.int i)) (hm : X.mg "len" = none) (ha : EX X e G M d M1) (hg : Gl X "len" := by rfl) (he : starEach [e] X.env = (false, eval e X.env) :: starEach [] X.env := by rfl) : EX X (.Call (.Name "len" p1) [e] [] pos) G M (.int i) M1 :=
  ex_callB call_len h hm (ax_cons ha ax_nil he) hg PySem.boot_len (by decide) (by decide) he rfl
theorem int1_D : CallD X.K (fun xs H Q => (∃ i, xs = [.int i] ∧ Q (.int i) H) ∨ ∃ k, xs = [.bl k] ∧ Q (.int (if k then 1 else 0)) H) [.int i] (.int i) := CallD.now fun F H vs Q sb r q => by
  obtain ⟨v, r1, rfl, r2, r3⟩ := r
  have e2 : v = .int i := r2
  have e3 : r1 = [] := r3
  subst e2 e3
  exact .inl ⟨i, rfl, q _ rfl⟩
theorem ex_intI (hm : X.mg "int" = none) (ha : EX X e G M (.int i) M1) (hg : Gl X "int" := by rfl) (he : starEach [e] X.env = (false, eval e X.env) :: starEach [] X.env := by rfl) : EX X (.Call (.Name "int" p1) [e] [] pos) G M (.int i) M1 :=
  ex_callTy call_int1 int1_D hm (ax_cons ha ax_nil he) hg boot_int (by decide) (by decide) he rfl
theorem abs_D : CallD X.K (fun xs H Q => ∃ i, xs = [.int i] ∧ Q (.int (if i < 0 then -i else i)) H) [.int i] (.int (i.natAbs : Int)) := CallD.now fun F H vs Q sb r q => by
  obtain ⟨v, r1, rfl, r2, r3⟩ := r
  have e2 : v = .int i := r2
  have e3 : r1 = [] := r3
  subst e2 e3
  refine ⟨i, rfl, q _ ?_⟩
  show V.int (if i < 0 then -i else i) = V.int (i.natAbs : Int)
  congr 1
  split <;> omega
theorem ex_abs (hm : X.mg "abs" = none) (ha : EX X e G M (.int i) M1) (hg : Gl X "abs" := by rfl) (he : starEach [e] X.env = (false, eval e X.env) :: starEach [] X.env := by rfl) : EX X (.Call (.Name "abs" p1) [e] [] pos) G M (.int (i.natAbs : Int)) M1 :=
  ex_callB call_abs abs_D hm (ax_cons ha ax_nil he) hg (by decide +kernel) (by decide) (by decide) he rfl
theorem gcd_D : CallD X.K rGcd [.int i, .int j] (.int ((Nat.gcd i.natAbs j.natAbs : Nat) : Int)) := CallD.now fun F H vs Q sb r q => by
  obtain ⟨v, r1, rfl, r2, v2, r3, rfl, r4, r5⟩ := r
  have e2 : v = .int i := r2
  have e4 : v2 = .int j := r4
  have e5 : r3 = [] := r5
  subst e2 e4 e5
  exact ⟨i, j, rfl, q _ rfl⟩
theorem ex_callBf {x : Str} {id : String} {ds : List Dt} {r : List V → Hp → VK → Prop} (hc : CallR X (.builtin id) r) (hr : CallD X.K r ds d) (hm : X.mg x = some (.builtin id)) (ha : AX X (e :: es) G M ds M1) (hg : Gl X x := by rfl) (hdb : (x == ("__debug__" : Str)) = false := by decide)
    (he : starEach (e :: es) X.env = (false, eval e X.env) :: starEach es X.env := by rfl) (hpl : (backTo pos (starEach es X.env)).any (·.1) = false := by rfl) : EX X (.Call (.Name x p1) (e :: es) [] pos) G M d M1 :=
  (ee_cb hr ha).of (w_e (pe_callBfun hc hg hm pa_w hdb he hpl))
theorem ex_gcd {a b : Expr} {M2 : Mst} (hm : X.mg "gcd" = some (.builtin "math.gcd")) (ha : EX X a G M (.int i) M1) (hb : EX X b G M1 (.int j) M2) (hg : Gl X "gcd" := by rfl)
    (he : starEach [a, b] X.env = (false, eval a X.env) :: starEach [b] X.env := by rfl) (he2 : starEach [b] X.env = (false, eval b X.env) :: starEach [] X.env := by rfl) (hpl : (backTo pos (starEach [b] X.env)).any (·.1) = false := by rfl) :
    EX X (.Call (.Name "gcd" p1) [a, b] [] pos) G M (.int ((Nat.gcd i.natAbs j.natAbs : Nat) : Int)) M2 := ex_callBf cr_gcd gcd_D hm (ax_cons ha (ax_cons hb ax_nil he2) he) hg (by decide) he hpl
end
end HM

set_option Elab.async false
set_option linter.all false
set_option maxRecDepth 100000
set_option maxHeartbeats 4000000
/-! HM5: expressions that may raise; lists that change; calls with keywords. -/
namespace HM
open PySem PySem.Spec PyProof.Rows L2

/-! ### what may raise -/
section
variable {X : Cx} {e a b : Expr} {es : List Expr} {G : List (Option Dt)} {M M1 : Mst} {d d1 : Dt} {ds : List Dt} {pos apos : Pos} {x : Str} {T : Po}
theorem pe_callRS {j : Nat} {f : Addr} {sp : Sp} {W : WX} {t : TA} (F : FnR X.prog X.w X.K X.mg X.base (L2N.CX X.prog X.w) j f sp) (hr : Room j X.A) (hg : Gl X x) (hm : X.mg x = some (.ref f)) (hk : PySem.W.keepIn X.K (.ref f) = true) (tk : L2N.Takes X W)
    (ha : PA X (e :: es) t) (hdb : (x == ("__debug__" : Str)) = false := by decide) (he : starEach (e :: es) X.env = (false, eval e X.env) :: starEach es X.env := by rfl) (hpl : (backTo pos (starEach es X.env)).any (·.1) = false := by rfl) :
    PE X (.Call (.Name x apos) (e :: es) [] pos) (fun σ H Q => t σ H fun vs H1 => sp vs H1 Q (WE W σ)) := by
  refine ⟨fun pins s σ H Q I h => ?_⟩
  refine wpAny_Call_Name_kw (ld_glob I hg hm ?_ hdb)
  refine PySem.W.callWith_K (h₀ := X.base) I.ok.mod.kin hk (thn (ha.run pos pins s σ H _ I h) fun us s1 ⟨vs, H1, I1, r, q⟩ => ⟨I1.kIn, ?_⟩) he hpl
  refine wpAny_call (codeAny_mono (F X.A X.stack s1 H1 us vs Q (WE W σ) hr I1.env0 r q) fun r s' hq => ?_)
  cases r with
  | error e => exact L2N.passAt tk σ pins H1 s1 e s' I1 hq
  | ok fl =>
    cases fl with
    | ret u => exact I1.after hq
    | next => exact False.elim hq
    | brk => exact False.elim hq
    | cont => exact False.elim hq
/-- e gives a value as R says, or raises as Z says (the slots as they were) -/
def EZ (X : Cx) (e : Expr) (G : List (Option Dt)) (M : Mst) (R : Dt → Mst → Prop) (Z : Er) : Prop := ∀ (B : Bs) (σ : L2.St) (H : Hp) (Q : VK), ErrD X.K X B (fun G' C ks fs M' => G' = G ∧ dom M' = dom M ∧ Z C ks fs M') → Now X.K B G M σ H →
  (∀ d M' v F' H', R d M' → dom M' = dom M → Gr B.m B.F B.H F' H' → Sta X.K F' M' H' → Rep X.K F' d v → Q v H') → wE X e σ H Q
theorem ErrD.imp {K : PySem.W.Frag} {B : Bs} {Z Z' : List (Option Dt) → Er} (h : ErrD K X B Z) (k : ∀ G C ks fs M, Z' G C ks fs M → Z G C ks fs M) : ErrD K X B Z' :=
  let ⟨W, tk, q⟩ := h
  ⟨W, tk, fun G C ks fs M dd ws σ F H hz => q G C ks fs M dd ws σ F H (k _ _ _ _ _ hz)⟩
theorem ez_ex {R : Dt → Mst → Prop} {Z : Er} (h : EX X e G M d M1) (hR : R d M1) : EZ X e G M R Z := fun B σ H Q _ ⟨F, g0, s0, r0, m0⟩ k => h.2 σ F H Q r0 s0 fun v F1 H1 g1 s1 r1 => k d M1 v F1 H1 hR h.1 (g0.trans g1 m0) s1 r1
theorem ez_call {j i : Nat} {W : Ct} {R : Dt → Mst → Prop} {Z : Er} (F : Df X.prog X.w X.K X.mg X.base x j W) (hr : Room i X.A) (ha : AX X (e :: es) G M ds M1) (hw : W ds M1 R Z) (hj : j ≤ i := by decide) (hg : Gl X x := by rfl) (hdb : (x == ("__debug__" : Str)) = false := by decide)
    (he : starEach (e :: es) X.env = (false, eval e X.env) :: starEach es X.env := by rfl) (hpl : (backTo pos (starEach es X.env)).any (·.1) = false := by rfl) : EZ X (.Call (.Name x apos) (e :: es) [] pos) G M R Z := by
  obtain ⟨f, hm, hk, F⟩ := F
  intro B σ H Q ⟨Wx, tk, hE⟩ ⟨F0, g0, s0, r0, m0⟩ k
  refine w_e (pe_callRS F (hr.mono hj) hg hm hk tk pa_w hdb he hpl) (ha.2 σ F0 H _ r0 s0 fun vs F1 H1 g1 s1 r1 => ⟨F1, M1, ds, R, Z, s1, r1, hw, fun d' M' v F' H' hR hd g s' rv => ?_, fun C ks fs M' dd ws F' H' hZ hd g s' h1 h2 h3 => ?_⟩)
  · exact k d' M' v F' H' hR (hd.trans ha.1) (g0.trans (gr2 ha.1 g1 g) m0) s' rv
  · exact hE G C ks fs M' dd ws σ F' H' ⟨rfl, hd.trans ha.1, hZ⟩ (by rw [hd, ha.1]; exact m0) (g0.trans (gr2 ha.1 g1 g) m0) s' (r0.mono (g1.sub.trans g.sub)) h1 h2 h3
theorem s1_retZ {R : Dt → Mst → Prop} {Z : Er} (he : EZ X e G M R Z) (hr : ∀ d M', R d M' → dom M' = dom M → T.rt d M') (hz : ∀ C ks fs M', Z C ks fs M' → dom M' = dom M → T.er G C ks fs M') : S1 X (.Return (some e) pos) G M T :=
  fun B σ H D hD hE hN => w_s (ps_ret pe_w) (he B σ H _ (hE.imp fun G' C ks fs M' ⟨e1, hd, z⟩ => e1 ▸ hz C ks fs M' z hd) hN fun d M' v F' H' hR hd g s' rv => by
    obtain ⟨F, g0, s0, r0, m0⟩ := hN
    exact hD.rt d M' v F' H' (hr d M' hR hd) (by rw [hd]; exact m0) g s' rv)
theorem s1_exprZ {R : Dt → Mst → Prop} {Z : Er} (he : EZ X e G M R Z) (hr : ∀ d M', R d M' → dom M' = dom M → T.nx G M') (hz : ∀ C ks fs M', Z C ks fs M' → dom M' = dom M → T.er G C ks fs M') (hs : swapsWith e none pos.line X.env = pure false := by rfl) : S1 X (.Expr e pos) G M T :=
  fun B σ H D hD hE ⟨F, g0, s0, r0, m0⟩ => w_s (ps_expr pe_w hs) (he ⟨F, H, dom M⟩ σ H _ (by
    obtain ⟨W, tk, q⟩ := hE
    exact ⟨W, tk, fun G' C ks fs M' dd ws σ' F' H' ⟨e1, hd, z⟩ hm g s' rs h1 h2 h3 => q G' C ks fs M' dd ws σ' F' H' (e1 ▸ hz C ks fs M' z hd) (fun a ha => (hm a ha).elim (m0 a) fun z => .inr (g0.free z)) (g0.trans g m0) s' rs h1 h2 h3⟩)
    ⟨F, Gr.refl _ _ _, s0, r0, fun a ha => .inl ha⟩ fun d M' v F' H' hR hd g s' rv => hD.nx G M' σ H' (hr d M' hR hd) (Now.go g0 m0 hd g s' (r0.mono g.sub)))
/-- ('..', b), where b may raise -/
theorem ez_tup2 {R R' : Dt → Mst → Prop} {Z : Er} {x1} (ha : EX X a G M d1 M) (hb : EZ X b G M R Z) (hR : ∀ d M', R d M' → R' (.tup [d1, d]) M') (hs : starEach [a, b] X.env = (false, eval a X.env) :: starEach [b] X.env := by rfl) (hs2 : starEach [b] X.env = (false, eval b X.env) :: starEach [] X.env := by rfl) :
    EZ X (.Tuple [a, b] x1 pos) G M R' Z := fun B σ H Q hE ⟨F, g0, s0, r0, m0⟩ k => by
  refine w_e (pe_tup (pa_cons pe_w (pa_cons pe_w pa_nil hs2) hs)) (ha.2 σ F H _ r0 s0 fun v1 F1 H1 g1 s1 r1 => ?_)
  refine hb ⟨F1, H1, dom M⟩ σ H1 _ ?_ ⟨F1, Gr.refl _ _ _, s1, r0.mono g1.sub, fun a ha => .inl ha⟩ fun d M' v F' H' hR' hd g s' rv => ?_
  · obtain ⟨W, tk, q⟩ := hE
    exact ⟨W, tk, fun G' C ks fs M' dd ws σ' F' H' z hm g s' rs h1 h2 h3 => q G' C ks fs M' dd ws σ' F' H' z (fun a ha => (hm a ha).elim (m0 a) fun z => .inr ((g0.trans g1 m0).free z)) ((g0.trans g1 m0).trans g m0) s' rs h1 h2 h3⟩
  · refine ⟨by show 2 ≤ sizeLine; decide, fun p hp => ?_⟩
    refine k _ M' _ _ _ (hR d M' hR') hd ((g0.trans g1 m0).trans (g.trans' (hd ▸ gr_new s' hp)) m0) (s'.new hp) ⟨p, [v1, v], rfl, SqT.of upd_same, ?_⟩
    exact Reps.cons (Rep.mono (g.sub.trans (sub_upd (s'.free hp))) _ r1) (Reps.one (Rep.mono (sub_upd (s'.free hp)) _ rv))
end

/-! ### lists that change: the first of M -/
section
variable {K : PySem.W.Frag} {F H : Hp} {M : Mst} {p : Addr} {ds ds' : List Dt} {vs : List V}
theorem mem_dom {q : Addr × Mu} (h : q ∈ M) : q.1 ∈ dom M := List.mem_map_of_mem h
theorem MuOk.wr {a : Addr} {ws : List V} (ne : a ≠ p) (e : H p = some (.lst ws)) : ∀ {u : Mu}, MuOk K F H a u → MuOk K F (upd H p (.lst vs)) a u
  | .l ds, ⟨zs, h1, h2⟩ => ⟨zs, by rw [upd_ne ne]; exact h1, h2⟩
  | .t q, ⟨ps, h1, h2, h3⟩ => ⟨ps, by rw [upd_ne ne]; exact h1, h2, fun pos cv hc => by
    obtain ⟨c, e1, e2⟩ := h3 pos cv hc
    refine ⟨c, e1, ?_⟩
    rw [upd_ne (fun z => by
      rw [z, e] at e2
      have e3 : HO.lst ws = HO.ext _ := Option.some.inj e2
      cases e3)]
    exact e2⟩
theorem Sta.write (s : Sta K F ((p, .l ds) :: M) H) (r : Reps K F ds' vs) : Sta K F ((p, .l ds') :: M) (upd H p (.lst vs)) := by
  have hF : F p = none := s.off (p, .l ds) List.mem_cons_self
  have hnd := s.nd
  refine ⟨fun a o e => ?_, fun q hq => ?_, fun q hq => ?_, hnd⟩
  · rw [upd_ne (fun z => by rw [z, hF] at e; cases e)]
    exact s.sub a o e
  · rcases List.mem_cons.mp hq with rfl | hq
    · exact ⟨vs, upd_same, r⟩
    · obtain ⟨ws, e, _⟩ := s.mt (p, .l ds) List.mem_cons_self
      exact MuOk.wr (fun z => (List.nodup_cons.mp hnd).1 (by have y : q.1 ∈ dom M := mem_dom hq; rw [z] at y; exact y)) e (s.mt q (List.mem_cons_of_mem _ hq))
  · rcases List.mem_cons.mp hq with rfl | hq
    · exact hF
    · exact s.off q (List.mem_cons_of_mem _ hq)
theorem gr_write {o : HO} : Gr (p :: dom M) F H F (upd H p o) := by
  refine ⟨fun a u ha e => ?_, Sub.refl F, fun a xs h h' => (by rw [h] at h'; cases h'), fun a ha e => ?_⟩
  · rw [upd_ne (show a ≠ p from fun z => ha (by rw [z]; exact List.mem_cons_self))]
    exact e
  · by_cases h : a = p
    · subst h
      rw [upd_same]
      simp
    · rw [upd_ne h]
      exact e
/-- a new list that is to change -/
theorem Sta.newM (s : Sta K F M H) (hp : H p = none) (r : Reps K F ds vs) : Sta K F ((p, .l ds) :: M) (upd H p (.lst vs)) := by
  have hF : F p = none := s.free hp
  have hnp := s.fresh hp
  refine ⟨fun a o e => ?_, fun q hq => ?_, fun q hq => ?_, List.nodup_cons.mpr ⟨hnp, s.nd⟩⟩
  · rw [upd_ne (fun z => by rw [z, hF] at e; cases e)]
    exact s.sub a o e
  · rcases List.mem_cons.mp hq with rfl | hq
    · exact ⟨vs, upd_same, r⟩
    · exact MuOk.ext (Sub.refl F) (fun b u e => by
        rw [upd_ne (ne_of_none e hp)]
        exact e) (s.mt q hq)
  · rcases List.mem_cons.mp hq with rfl | hq
    · exact hF
    · exact s.off q hq
theorem gr_newM {m : List Addr} {o : HO} (hp : H p = none) : Gr m F H F (upd H p o) := by
  refine ⟨fun a u _ e => ?_, Sub.refl F, fun a xs h h' => (by rw [h] at h'; cases h'), fun a ha e => ?_⟩
  · rw [upd_ne (fun z => by rw [z, hp] at e; cases e)]
    exact e
  · by_cases h : a = p
    · subst h
      rw [upd_same]
      simp
    · rw [upd_ne h]
      exact e
/-- it changes no more -/
theorem Sta.freeze (s : Sta K F ((p, .l ds) :: M) H) : ∃ vs, H p = some (.lst vs) ∧ Sta K (upd F p (.lst vs)) M H ∧ Rep K (upd F p (.lst vs)) (.lst ds) (.ref p) ∧ Sub F (upd F p (.lst vs)) := by
  obtain ⟨vs, e, r⟩ := s.mt (p, .l ds) List.mem_cons_self
  have hF : F p = none := s.off (p, .l ds) List.mem_cons_self
  have sb : Sub F (upd F p (.lst vs)) := sub_upd hF
  have hnd := List.nodup_cons.mp s.nd
  refine ⟨vs, e, ⟨fun a o e' => ?_, fun q hq => ?_, fun q hq => ?_, hnd.2⟩, ⟨p, vs, rfl, SqL.of upd_same, Reps.mono sb _ r⟩, sb⟩
  · by_cases h : a = p
    · subst h
      rw [upd_same] at e'
      cases e'
      exact e
    · rw [upd_ne h] at e'
      exact s.sub a o e'
  · exact MuOk.ext sb (fun _ _ e => e) (s.mt q (List.mem_cons_of_mem _ hq))
  · rw [upd_ne (show q.1 ≠ p from fun z => hnd.1 (by have y : q.1 ∈ dom M := mem_dom hq; rw [z] at y; exact y))]
    exact s.off q (List.mem_cons_of_mem _ hq)
end
section
variable {X : Cx} {e o i : Expr} {es : List Expr} {G : List (Option Dt)} {M M1 M2 M3 : Mst} {d : Dt} {ds : List Dt} {pos tpos apos cpos sp lp : Pos} {x : Str} {T : Po} {sts : List Stmt} {p : Addr} {n : Nat}
/-- x = [..], a list that is to change -/
theorem s1_newL (j : Nat) (hN : X.N.Nodup) (ha : AX X es G M ds M1) (h : ∀ p, p ∉ dom M → T.nx (G.set j (some (.raw (.ref p)))) ((p, .l ds) :: M1)) (hl : ds.length ≤ 100000 := by decide) (hi : X.N[j]? = some x := by rfl) (hx : Loc X.env.scope x := by first | exact Or.inl rfl | exact Or.inr rfl)
    (hs : swapsWith (.List es lp) (some (.Name x tpos)) pos.line X.env = pure false := by rfl) (hf : X.fn x = true ∨ X.env.scope.names.lookup x = some .local := by first | exact .inl rfl | exact .inr rfl | assumption) : S1 X (.Assign [.Name x tpos] (.List es lp) pos) G M T :=
  fun B σ H D hD hE ⟨F, g0, s0, r0, m0⟩ => w_s (ps_set hN hi hx (pe_lst pa_w) hs hf) (ha.2 σ F H _ r0 s0 fun vs F1 H1 g1 s1 r1 => ⟨by rw [r1.len]; exact Nat.le_trans hl (by decide), fun p hp => by
    have hnp := s1.fresh hp
    rw [ha.1] at hnp
    have g01 := g0.trans g1 m0
    refine hD.nx _ _ _ _ (h p hnp) ⟨F1, g01.trans (m' := dom M) (gr_newM hp) (fun a hm => m0 a hm), s1.newM hp r1, (r0.mono g1.sub).set (d := .raw (.ref p)) rfl j, fun a ha' => ?_⟩
    rcases List.mem_cons.mp ha' with rfl | ha'
    · exact .inr (g01.free hp)
    · exact m0 a (ha.1 ▸ ha')⟩)
/-- o.append(e) -/
theorem ex_append (ho : EX X o G M (.raw (.ref p)) M1) (he : EX X e G M1 d ((p, .l ds) :: M2)) (hl : ds.length ≤ 100000 := by decide) {ds0 : List Dt} (hp : (p, Mu.l ds0) ∈ M1) (hbase : attributeBase o "append" X.env (eval o X.env) = eval o X.env := by rfl)
    (hfew : ((backTo cpos (starEach [e] X.env)).all (fun x => !x.1) && (backToKw cpos (keywordEach [] X.env)).all (fun x => x.1.isSome) && decide (([e] : List Expr).length + ([] : List Keyword).length + (if ([] : List Keyword).isEmpty then 0 else 1) < 30)) = true := by rfl)
    (hline : (apos.endLine == cpos.line) = true := by rfl) (hs : starEach [e] X.env = (false, eval e X.env) :: starEach [] X.env := by rfl) : EX X (.Call (.Attribute o "append" apos) [e] [] cpos) G M .non ((p, .l (ds ++ [d])) :: M2) := by
  have hd1 : dom ((p, .l ds) :: M2) = dom M := he.1.trans ho.1
  refine ⟨hd1, fun σ F H Q r s q => w_e (pe_bm PySem.F.plainAttrs_list PySem.F.slot_list_append PySem.F.type_list_append mt_append pe_w (pa_cons pe_w pa_nil hs) hbase hfew hline hs) (ho.2 σ F H _ r s fun v F1 H1 g1 s1 r1 => ?_)⟩
  have r1 : v = .ref p := r1
  subst r1
  obtain ⟨ws, e2, _⟩ := s1.mt _ hp
  refine ⟨.inl ⟨rfl, ws, SqL.of e2⟩, he.2 σ F1 H1 _ (r.mono g1.sub) s1 fun y F2 H2 g2 s2 r2 => ?_⟩
  obtain ⟨vs, e3, r3⟩ := s2.mt (p, .l ds) List.mem_cons_self
  refine ⟨p, vs, y, rfl, rfl, e3, by rw [r3.len, sizeLine_eq]; show ds.length < _; omega, ?_⟩
  have r4 : Reps X.K F2 (ds ++ [d]) (vs ++ [y]) := r3.app (Reps.one r2)
  refine q _ F2 _ ((gr2 ho.1 g1 g2).trans' ?_) (s2.write r4) rfl
  rw [← hd1]
  exact gr_write
/-- o[i] = e -/
theorem s1_setI (he : EX X e G M d M1) (ho : EX X o G M1 (.raw (.ref p)) M2) (hi : EX X i G M2 (.int (n : Int)) ((p, .l ds) :: M3)) (hn : n < ds.length) (h : T.nx G ((p, .l (ds.set n d)) :: M3)) (hl : ds.length ≤ 100000 := by decide)
    (hs : swapsWithSole [.Subscript o i sp] e pos.line X.env = pure false := by rfl) (hw : swappedStores [.Subscript o i sp] e X.env = pure none := by rfl) (h1 : (assignEach [.Subscript o i sp] X.env).map (·.2) = [assign (.Subscript o i sp) X.env] := by rfl)
    (ha : ∀ v, assign (.Subscript o i sp) X.env v = (do
      let ov ← holding [v] (eval o X.env)
      let iv ← holding [v, ov] (eval i X.env)
      standAt sp
      holding [v, ov, iv] (setItem ov iv v)
      release [v, ov, iv] []) := by intro _; rfl) : S1 X (.Assign [.Subscript o i sp] e pos) G M T := fun B σ H D hD hE ⟨F, g0, s0, r0, m0⟩ => by
  refine w_s (ps_asg pe_w (pg_sub pe_w pe_w set_list ha) hs hw h1) (he.2 σ F H _ r0 s0 fun v F1 H1 g1 s1 r1 => ho.2 σ F1 H1 _ (r0.mono g1.sub) s1 fun u F2 H2 g2 s2 r2 => hi.2 σ F2 H2 _ (r0.mono (g1.sub.trans g2.sub)) s2 fun w F3 H3 g3 s3 r3 => ?_)
  have r2 : u = .ref p := r2
  have r3 : w = .int (n : Int) := r3
  subst r2 r3
  have d1 : dom ((p, .l ds) :: M3) = dom M := hi.1.trans (ho.1.trans he.1)
  obtain ⟨vs, e3, r4⟩ := s3.mt (p, .l ds) List.mem_cons_self
  refine ⟨p, vs, (n : Int), n, rfl, rfl, e3, ?_, ?_⟩
  · rw [r4.len]
    show ixN ds.length (n : Int) = some n
    unfold ixN
    rw [if_pos (by omega), if_pos (by omega)]
    simp
  · have g13 : Gr (dom M) F H F3 H3 := gr2 (ho.1.trans he.1) (gr2 he.1 g1 g2) g3
    have r5 : Reps X.K F3 (ds.set n d) (vs.set n v) := Reps.set (Rep.mono (g2.sub.trans g3.sub) _ r1) n r4
    refine hD.nx G _ σ _ h ⟨F3, g0.trans (g13.trans' (d1 ▸ gr_write)) m0, s3.write r5, r0.mono g13.sub, ?_⟩
    show ∀ a ∈ dom ((p, .l ds) :: M3), _
    rw [d1]
    exact m0
/-- o[i], a list that changes -/
theorem ex_atM (ho : EX X o G M (.raw (.ref p)) M1) (hi : EX X i G M1 (.int (n : Int)) ((p, .l ds) :: M2)) (hg : ds[n]? = some d) (hs : PlainIx i := by exact fun _ _ => rfl) : EX X (.Subscript o i pos) G M d ((p, .l ds) :: M2) :=
  ⟨hi.1.trans ho.1, fun σ F H Q r s q => w_e (pe_ix ix_list pe_w pe_w hs) (ho.2 σ F H _ r s fun u F2 H2 g2 s2 r2 => hi.2 σ F2 H2 _ (r.mono g2.sub) s2 fun w F3 H3 g3 s3 r3 => by
    have r2 : u = .ref p := r2
    have r3 : w = .int (n : Int) := r3
    subst r2 r3
    obtain ⟨vs, e3, r4⟩ := s3.mt (p, .l ds) List.mem_cons_self
    obtain ⟨v, h3, h4⟩ := r4.get hg
    exact ⟨p, vs, n, v, rfl, rfl, SqL.of e3, atI_nat h3, q v F3 H3 (gr2 ho.1 g2 g3) s3 h4⟩)⟩
/-- len(o), a list that changes -/
theorem ex_lenM (hm : X.mg "len" = none) (ho : EX X o G M (.raw (.ref p)) ((p, .l ds) :: M1)) (hg : Gl X "len" := by rfl) (he : starEach [o] X.env = (false, eval o X.env) :: starEach [] X.env := by rfl) : EX X (.Call (.Name "len" apos) [o] [] pos) G M (.int (ds.length : Int)) ((p, .l ds) :: M1) :=
  ⟨ho.1, fun σ F H Q r s q => w_e (pe_callB call_len hg hm PySem.boot_len (pa_cons pe_w pa_nil he) (by decide) (by decide) he rfl) (ho.2 σ F H _ r s fun u F2 H2 g2 s2 r2 => by
    have r2 : u = .ref p := r2
    subst r2
    obtain ⟨vs, e3, r4⟩ := s2.mt (p, .l ds) List.mem_cons_self
    exact ⟨_, ds.length, rfl, .inl ⟨vs, SqL.of e3, r4.len.symm⟩, q _ F2 H2 g2 s2 rfl⟩)⟩
/-- x changes no more -/
theorem ss_freeze (j : Nat) (hj : G[j]? = some (some (.raw (.ref p)))) (h : SS X sts (G.set j (some (.lst ds))) M T) : SS X sts G ((p, .l ds) :: M) T := fun B σ H D hD hE ⟨F, g0, s0, r0, m0⟩ => by
  obtain ⟨vs, e, s1, r1, sb⟩ := s0.freeze
  refine h B σ H D hD hE ⟨_, ⟨g0.ex, g0.sub.trans sb, fun a xs h h' => (by
    by_cases hp : a = p
    · subst hp
      exact (m0 a List.mem_cons_self).symm
    · rw [upd_ne hp] at h
      exact g0.new a xs h h'), g0.old⟩, s1, ?_, fun a ha => m0 a (List.mem_cons_of_mem _ ha)⟩
  obtain ⟨v, hv, rv⟩ := r0.get j _ hj
  have rv : v = .ref p := rv
  subst rv
  have := (r0.mono sb).set r1 j
  have e2 : σ.set j (some (.ref p)) = σ := by
    apply List.ext_getElem?
    intro i
    by_cases h : j = i
    · subst h
      have hlt : j < σ.length := (List.getElem?_eq_some_iff.mp hv).1
      rw [List.getElem?_set_self hlt, hv]
    · rw [List.getElem?_set_ne h]
  rw [e2] at this
  exact this
end
end HM

set_option Elab.async false
set_option linter.all false
set_option maxRecDepth 100000
set_option maxHeartbeats 4000000
/-! E1: own exception classes whose __init__ says super().__init__('..') and stores fields: the call of the class. -/
namespace XN
open PySem PySem.Spec PyProof.Rows PySem.W PySem.Calls Builtin Builtin.ObjectAttr

structure Bas (B newId initId : String) (bmB : List Value) : Prop where
  fb : ExcBaseFacts B newId initId bmB
  sf : StoreFacts B bmB "object.__setattr__" "object"
  kf : KxsFacts B initId
theorem basVE : Bas "ValueError" "ValueError.__new__" "ValueError.__init__" [.type "ValueError", .type "Exception", .type "BaseException", .type "object"] := ⟨F.excBase_ValueError, F.store_ValueError, kxs_ValueError⟩
theorem basLE : Bas "LookupError" "LookupError.__new__" "LookupError.__init__" [.type "LookupError", .type "Exception", .type "BaseException", .type "object"] := ⟨F.excBase_LookupError, F.store_LookupError, kxs_LookupError⟩
theorem basRE : Bas "RuntimeError" "RuntimeError.__new__" "RuntimeError.__init__" [.type "RuntimeError", .type "Exception", .type "BaseException", .type "object"] := ⟨F.excBase_RuntimeError, F.store_RuntimeError, kxs_RuntimeError⟩

/-- an exception's record, with its dict -/
abbrev xO (C t : Addr) (d : Option Addr) : Obj := { cls := .ref C, dict := d, data := .fields #[.ref t, .none, .none, .none, .bool false, .none] }

section
variable {prog : Program} {w : World} {A : Around} {E : Value → Shared → Prop} {K : Frag} {C x : Addr} {B newId initId : String} {bmB : List Value} {h : Heap} {g : Array GenState} {d : Drawn} {t : Nat} {os : OsState}
/-- self.f = v, the first one -/
theorem set_new {t0 : Addr} {f : Str} {v : Value} {Q : Unit → Shared → Prop} (SF : StoreFacts B bmB "object.__setattr__" "object") (X : K.In h) (sa : findIn K (.ref C) "__setattr__" = some (some (.builtin "object.__setattr__"))) (ov : excOver K C bmB = true) (tk : takerIn K C f = some none) (hd : hasDictIn K C = true)
    (hx : h.get? x = some (xO C t0 none))
    (hq : ∀ h' tk' dx, (∀ b o, b ≠ x → h.get? b = some o → h'.get? b = some o) → h.objs.size ≤ dx → dx ≠ x → h'.get? x = some (xO C t0 (some dx)) → h'.Ns1 dx (fun y => if y = f then some v else none) → Q () ⟨h', g, d, tk', os⟩) :
    wpAny (model prog w) A (setAttr (.ref x) f v) Q E ⟨h, g, d, t, os⟩ := by
  have hxs : x ≠ h.objs.size := Nat.ne_of_lt (Heap.lt_size hx)
  obtain ⟨cd, hc, hd'⟩ := any_some hd
  refine set_plain (od := none) X ⟨hx, rfl, rfl, trivial⟩ sa (osa_openX (s := ⟨h, g, d, t + 1, os⟩) (od := none) SF X ⟨hx, rfl, rfl, trivial⟩ ov tk fun b => ?_)
  refine wpAny_bind (wpAny_pure (wpAny_bind (instanceDict_exc (s := ⟨h, g, d, t + 1, os⟩) hx (looks_clsIn X hc) hd' ?_)))
  show wpAny _ _ (storeInDict h.objs.size (.str f t) f v) _ _ _
  have hx₁ : (h.push (dictOf [] 0)).get? x = some (xO C t0 none) := Heap.get?_push_of_some _ hx
  refine HandSPX.store_in_new ?_ fun h' tk' hn' hs => ?_
  · exact ⟨_, #[], _, (Heap.get?_update_ne _ _ _ _ hxs.symm).trans (Heap.get?_push_at rfl rfl), rfl, fun e he => absurd he (by simp), fun _ => rfl⟩
  · refine hq h' tk' h.objs.size (fun b o hb ho => ?_) (Nat.le_refl _) hxs.symm ?_ hn'
    · exact (hs.2 b (Nat.ne_of_lt (Heap.lt_size ho))).trans ((Heap.get?_update_ne _ _ _ _ hb).trans (Heap.get?_push_of_some _ ho))
    · exact (hs.2 x hxs).trans (Heap.get?_update_self _ hx₁ rfl)
/-- a further one -/
theorem set_old {t0 dx : Addr} {f : Str} {v : Value} {m0 : Str → Option Value} {ns : List Str} {Q : Unit → Shared → Prop} (SF : StoreFacts B bmB "object.__setattr__" "object") (X : K.In h) (sa : findIn K (.ref C) "__setattr__" = some (some (.builtin "object.__setattr__"))) (ov : excOver K C bmB = true) (tk : takerIn K C f = some none) (hd : hasDictIn K C = true)
    (hx : h.get? x = some (xO C t0 (some dx))) (hn : h.Ns1 dx m0) (hw : Within m0 ns) (hz : ns.length ≤ 1000)
    (hq : ∀ h' tk', (∀ b o, b ≠ dx → h.get? b = some o → h'.get? b = some o) → h'.Ns1 dx (fun y => if y = f then some v else m0 y) → Q () ⟨h', g, d, tk', os⟩) :
    wpAny (model prog w) A (setAttr (.ref x) f v) Q E ⟨h, g, d, t, os⟩ := by
  obtain ⟨oD, esD, epD, hoD, hdD, hcD⟩ := hn.count hw
  obtain ⟨cd, hc, hd'⟩ := any_some hd
  refine set_plain (od := some oD) X ⟨hx, rfl, rfl, hoD⟩ sa (osa_openX (s := ⟨h, g, d, t + 1, os⟩) (od := some oD) SF X ⟨hx, rfl, rfl, hoD⟩ ov tk fun b => ?_)
  refine wpAny_bind (wpAny_pure (wpAny_bind (wpAny_bind (wpAny_loadPart hx (wpAny_bind ((looks_clsIn X hc).at ?_))))))
  rw [hd']
  refine wpAny_pure (a := some dx) ?_
  show wpAny _ _ (storeInDict dx (.str f t) f v) _ _ _
  exact OEX.store_in_old hn hw hz fun h' tk' hn' hs => hq h' tk' (fun b o hb ho => (hs.2 b hb).trans ho) hn'
/-- super().__init__ held as a method-wrapper, called -/
theorem call_mw {u t0 : Addr} {rest : List Value} {Q : Value → Shared → Prop} (FB : ExcBaseFacts B newId initId bmB) (X : K.In h) (q : excInitIn K C bmB newId = true) (hu : h.get? u = some (kxs_mw initId x)) (hx : h.get? x = some (xO C t0 none)) (hz : rest.length ≤ sizeLine)
    (hq : ∀ h' t', (∀ b o, b ≠ x → h.get? b = some o → h'.get? b = some o) → h'.get? x = some (xO C t' none) → Q .none ⟨h', g, d, t, os⟩) : wpAny (model prog w) A (call (.ref u) rest) Q E ⟨h, g, d, t, os⟩ := by
  obtain ⟨nm, N', qn, bs, bm, hdct, sn, sub, ab, col, dd, k0, k1, k2, k3, k5, hC, hT⟩ := excInit_of X q
  refine wpAny_call (codeAny_of_tree ?_)
  show wpAny _ A.in1 (callAny (.ref u) ⟨rest, []⟩) _ _ _
  simp only [callAny]
  refine wpAny_bind (wpAny_load hu ?_)
  simp only [kxs_mw, show (Value.type "method-wrapper" == Value.type "method" || Value.type "method-wrapper" == Value.type "builtin_function_or_method" || Value.type "method-wrapper" == Value.type "method-wrapper") = true by decide, if_true]
  refine KFB.if_so (by decide) ?_
  refine wpAny_bind (check_bound_init FB.toExcCallFacts hC hx rfl ?_)
  refine wpAny_bind (wpAny_pure (wpAny_pure ?_))
  refine ⟨plainId_quiet FB.init.plain _, codeAny_builtin FB.initEntry ?_⟩
  exact exc_init_tree (cls := .ref C) (t0 := t0) (dv := none) (c2 := .none) (c3 := .none) (b4 := .bool false) hx hz fun h' k e' _ => hq h' _ k e'
end

/-! ### the stores -/
/-- what the stores leave in the dict -/
def FM : List (Str × (Value → Prop)) → (Str → Option Value) → (Str → Option Value) → Prop
  | [], m, m' => m = m'
  | (f, P) :: l, m, m' => ∃ v, P v ∧ FM l (fun y => if y = f then some v else m y) m'
section
variable {prog : Program} {w : World} {A : Around} {env : Env} {K : Frag} {C x : Addr} {B newId initId : String} {bmB : List Value} {m0 : Str → Option Value}
/-- an operand: a parameter, a text -/
def Opd (prog : Program) (w : World) (A : Around) (env : Env) (m0 : Str → Option Value) (e : Expr) (P : Value → Prop) : Prop :=
  ∀ (E : Value → Shared → Prop) (Q : Value → Shared → Prop) (h : Heap) (g : Array GenState) (d : Drawn) (t : Nat) (os : OsState), h.Ns env.locals m0 → (∀ v t', P v → Q v ⟨h, g, d, t', os⟩) → wpAny (model prog w) A (eval e env) Q E ⟨h, g, d, t, os⟩
theorem opd_nm {a : Str} {p : Pos} {v : Value} (hk : env.scope.kind = .function) (hl : env.kindOf a = some .local) (hv : m0 a = some v) (hd : (a == ("__debug__" : Str)) = false) : Opd prog w A env m0 (.Name a p) (fun u => u = v) := fun E Q h g d t os hn hq =>
  wpAny_Name (wpAny_loadName_local hk hl hn hv (hq v t rfl)) hd
theorem opd_str {z : Str} {j} {p : Pos} : Opd prog w A env m0 (.Constant (.str z) j p) (fun u => ∃ k, u = .str z k) := fun E Q h g d t os hn hq => wpAny_Constant_str (hq _ _ ⟨_, rfl⟩)
inductive AL (prog : Program) (w : World) (A : Around) (env : Env) (K : Frag) (C : Addr) (m0 : Str → Option Value) : List Stmt → List (Str × (Value → Prop)) → Prop
  | nil : AL prog w A env K C m0 [] []
  | cons {f : Str} {P : Value → Prop} {e : Expr} {p1 p2 p4 : Pos} {r : List Stmt} {l : List (Str × (Value → Prop))} (he : Opd prog w A env m0 e P) (tk : takerIn K C f = some none) (hs : swapsWith e (some (.Attribute (.Name "self" p1) f p2)) p4.line env = pure false)
      (h : AL prog w A env K C m0 r l) : AL prog w A env K C m0 (.Assign [.Attribute (.Name "self" p1) f p2] e p4 :: r) ((f, P) :: l)
theorem asg_old {E : Value → Shared → Prop} (SF : StoreFacts B bmB "object.__setattr__" "object") (sa : findIn K (.ref C) "__setattr__" = some (some (.builtin "object.__setattr__"))) (ov : excOver K C bmB = true) (hd : hasDictIn K C = true)
    (hk : env.scope.kind = .function) (hl : env.kindOf "self" = some .local) (hv : m0 "self" = some (.ref x)) {t0 dx : Addr} (hxK : ∀ o, K.lookup x ≠ some o) (hdK : ∀ o, K.lookup dx ≠ some o) (hxd : dx ≠ x) (hL : dx ≠ env.locals) :
    ∀ {sts : List Stmt} {l : List (Str × (Value → Prop))}, AL prog w A env K C m0 sts l → ∀ (Q : Flow → Shared → Prop) (h : Heap) (g : Array GenState) (d : Drawn) (t : Nat) (os : OsState) (m : Str → Option Value) (ns : List Str), K.In h → h.Ns env.locals m0 →
      h.get? x = some (xO C t0 (some dx)) → h.Ns1 dx m → Within m ns → ns.length + l.length ≤ 1000 →
      (∀ h' t' m', (∀ b o, b ≠ dx → h.get? b = some o → h'.get? b = some o) → h'.Ns1 dx m' → FM l m m' → Q .next ⟨h', g, d, t', os⟩) → wpAny (model prog w) A (execs sts env) Q E ⟨h, g, d, t, os⟩ := by
  intro sts l H
  induction H with
  | nil =>
    intro Q h g d t os m ns X hn hx hm hw hz hq
    exact wpAny_execs_nil (hq h t m (fun _ _ _ z => z) hm rfl)
  | @cons f P e p1 p2 p4 r l he tk hs hr ih =>
    intro Q h g d t os m ns X hn hx hm hw hz hq
    refine wpAny_execs_cons (plainObj_wpAny_Assign_Attribute (he _ _ h g d t os hn fun v t1 pv => ?_) hs)
    refine wpAny_Name (wpAny_loadName_local hk hl hn hv ?_) (by decide)
    refine set_old SF X sa ov tk hd hx hm hw (by simp at hz; omega) fun h' t2 k hm' => ?_
    refine ih Q h' g d t2 os _ (f :: ns) (fun b o e => k b o (fun z => hdK o (z ▸ e)) (X b o e)) ?_ (k _ _ hxd.symm hx) hm' (hw.cons f v) (by simp at hz ⊢; omega) fun h'' t3 m' k2 hm2 fm => ?_
    · obtain ⟨o, es, ep, h1, h2⟩ := hn
      exact ⟨o, es, ep, k _ _ hL.symm h1, h2⟩
    · exact hq h'' t3 m' (fun b o hb e => k2 b o hb (k b o hb e)) hm2 ⟨v, pv, fm⟩
theorem asg_new {E : Value → Shared → Prop} (SF : StoreFacts B bmB "object.__setattr__" "object") (sa : findIn K (.ref C) "__setattr__" = some (some (.builtin "object.__setattr__"))) (ov : excOver K C bmB = true) (hd : hasDictIn K C = true)
    (hk : env.scope.kind = .function) (hl : env.kindOf "self" = some .local) (hv : m0 "self" = some (.ref x)) {t0 : Addr} (hxK : ∀ o, K.lookup x ≠ some o) (hxL : x ≠ env.locals)
    {st : Stmt} {sts : List Stmt} {p : Str × (Value → Prop)} {l : List (Str × (Value → Prop))} (H : AL prog w A env K C m0 (st :: sts) (p :: l)) {Q : Flow → Shared → Prop} {h : Heap} {g : Array GenState} {d : Drawn} {t : Nat} {os : OsState} (X : K.In h) (hn : h.Ns env.locals m0)
    (hx : h.get? x = some (xO C t0 none)) (hz : l.length ≤ 900)
    (hq : ∀ h' t' dx m', (∀ b o, b ≠ x → h.get? b = some o → h'.get? b = some o) → h.objs.size ≤ dx → dx ≠ x → h'.get? x = some (xO C t0 (some dx)) → h'.Ns1 dx m' → FM (p :: l) (fun _ => none) m' → Q .next ⟨h', g, d, t', os⟩) :
    wpAny (model prog w) A (execs (st :: sts) env) Q E ⟨h, g, d, t, os⟩ := by
  cases H with
  | @cons f P e p1 p2 p4 r l he tk hs hr =>
    refine wpAny_execs_cons (plainObj_wpAny_Assign_Attribute (he _ _ h g d t os hn fun v t1 pv => ?_) hs)
    refine wpAny_Name (wpAny_loadName_local hk hl hn hv ?_) (by decide)
    refine set_new SF X sa ov tk hd hx fun h' t2 dx k hsz hne hx' hm' => ?_
    have X' : K.In h' := fun b o e => k b o (fun z => hxK o (z ▸ e)) (X b o e)
    have hdK : ∀ o, K.lookup dx ≠ some o := fun o e => absurd (Heap.lt_size (X _ _ e)) (Nat.not_lt.mpr hsz)
    have hL : dx ≠ env.locals := fun z => absurd (hn.lt) (Nat.not_lt.mpr (z ▸ hsz))
    have hn' : h'.Ns env.locals m0 := by
      obtain ⟨o, es, ep, h1, h2⟩ := hn
      exact ⟨o, es, ep, k _ _ hxL.symm h1, h2⟩
    refine asg_old (dx := dx) SF sa ov hd hk hl hv hxK hdK hne hL hr Q h' g d t2 os _ [f] X' hn' hx' hm' (Within.nil.cons f v) (by simp; omega) fun h'' t3 m' k2 hm2 fm => ?_
    exact hq h'' t3 dx m' (fun b o hb e => k2 b o (fun z => absurd (Heap.lt_size e) (Nat.not_lt.mpr (z ▸ hsz))) (k b o hb e)) hsz hne (k2 _ _ hne.symm hx') hm2 ⟨v, pv, fm⟩
end
end XN

set_option Elab.async false
set_option linter.all false
set_option maxRecDepth 100000
set_option maxHeartbeats 4000000
/-! E2: the run of such an __init__, the call of the class. -/
namespace XN
open PySem PySem.Spec PyProof.Rows PySem.W PySem.Calls Builtin Builtin.ObjectAttr
open L2 (defArgs defBody defScope)

/-- what the written part says of the class at C, whose __init__ is the def st -/
structure OwnX (K : Frag) (prog : Program) (C fI cc cda : Addr) (B newId initId : String) (bmB : List Value) (nm qual : Str) (st : Stmt) (fs : List Str) : Prop where
  q : excInitIn K C bmB newId = true
  ov : excOver K C bmB = true
  hi : findIn K (.ref C) "__init__" = some (some (.ref fI))
  isF : isFn K (.ref fI) = true
  sa : findIn K (.ref C) "__setattr__" = some (some (.builtin "object.__setattr__"))
  tk : ∀ f ∈ fs, takerIn K C f = some none
  hd : hasDictIn K C = true
  sB : subIn K (.ref C) (.type B) = some true
  mC : mroIn K C (.ref C) = some true
  sup : ks_superIn K C C "__init__" = some (some (.builtin initId))
  op : nsIn K cStatics "thirdparty.any" = some none
  cell : ∃ c d sl, K.lookup cc = some ⟨c, d, .cell (some (.ref C)), sl⟩
  code : ∃ c d vs sl file tf, K.lookup cda = some ⟨c, d, .fields vs, sl⟩ ∧ vs[2]? = some (.str file tf) ∧ ((prog.main.file : Str) == file) = true
  fn : ∃ oc od osl kV doc pm an ct, K.lookup fI = some ⟨oc, od, .func (ksFn nm qual (defArgs st) (defBody st) (defScope st) .none kV doc pm an (.ref cda) ct cc), osl⟩
  cd : codeIn K (.ref cda) qual = true
  top : (prog.main.scope.names.lookup ("super" : Str)).isSome = false
  kC : keepIn K (.ref C) = true
  exC : subIn K (.ref C) (.type "BaseException") = some true
  tyC : typeIn K (.ref C) = some (.type "type")
/-- what the text says of the def st: its parameters, its scope, its body -/
structure InitS (st : Stmt) (ps : List Str) : Prop where
  co : (defScope st).isCoroutine = false
  gen : (defScope st).isGenerator = false
  kind : (defScope st).kind = .function
  cell : ∀ y ∈ (defScope st).names, y.2 ≠ .cell
  loc : ∀ p ∈ ("self" : Str) :: ps, (defScope st).names.lookup p = some .local
  sup : (defScope st).names.lookup ("super" : Str) = some .globalImplicit
  cls : (defScope st).names.lookup ("__class__" : Str) = some .free
  hd : ∃ ar : Arg, ((defArgs st).posonlyargs ++ (defArgs st).args).head? = some ar ∧ ar.arg = "self"
  nd : (("self" : Str) :: ps).Nodup
  bind : ∀ (x qual : Str) (kV doc pm : Value) (an : Option Addr) (cdv ct : Value) (cc : Addr) (u : Value) (us : List Value), us.length = ps.length → bindArgs (ksFn x qual (defArgs st) (defBody st) (defScope st) .none kV doc pm an cdv ct cc) ⟨u :: us, []⟩ = pure ((("self" : Str), u) :: ps.zip us)

theorem mc_eq {o : Expr} {name : Str} {apos pos : Pos} {env : Env} {txt : Str} {j} {p3 : Pos} (hp : (apos.endLine == pos.line) = true) : eval (.Call (.Attribute o name apos) [.Constant (.str txt) j p3] [] pos) env = (do
      let ov ← attributeBase o name env (eval o env)
      standAt apos.atName
      let (f, first) ← holding [ov] (getMethod ov name (do return (← importBound o env).getD true))
      callWith pos f first (backTo pos (starEach [.Constant (.str txt) j p3] env)) []) := by
  have e : methodCallPos true o env apos pos = pure pos := by
    unfold methodCallPos
    rw [hp]
    rfl
  show (do
      let ov ← attributeBase o name env (eval o env)
      standAt apos.atName
      let (f, first) ← holding [ov] (getMethod ov name (do return (← importBound o env).getD true))
      let callPos ← methodCallPos true o env apos pos
      callWith callPos f first (backTo pos (starEach [.Constant (.str txt) j p3] env)) []) = _
  rw [e]
  rfl
section
variable {prog : Program} {w : World} {A : Around} {K : Frag} {C fI cc cda x : Addr} {B newId initId : String} {bmB : List Value} {nm qual : Str} {st : Stmt} {fs ps : List Str} {R : Result → Shared → Prop} {hp : Heap} {g : Array GenState} {d : Drawn} {t : Nat} {os : OsState} {mg mb : Str → Option Value}
theorem run_init (S : Bas B newId initId bmB) (O : OwnX K prog C fI cc cda B newId initId bmB nm qual st fs) (I : InitS st ps) {txt : Str} {j} {p0 p1 p2 p3 p4 p5 : Pos} (hpp : (p2.endLine == p4.line) = true) {s1 : Stmt} {sts : List Stmt} (hb : defBody st = .Expr (.Call (.Attribute (.Call (.Name "super" p0) [] [] p1) "__init__" p2) [.Constant (.str txt) j p3] [] p4) p5 :: s1 :: sts)
    {us : List Value} {args : Args} {lp : Str × (Value → Prop)} {l : List (Str × (Value → Prop))}
    (hal : ∀ (A' : Around) (L : Addr), AL prog w A' (ksEnv qual (defScope st) L fI (.ref cda) cc) K C (fun y => ((("self" : Str), Value.ref x) :: ps.zip us).reverse.lookup y) (s1 :: sts) (lp :: l)) (hz : l.length ≤ 900)
    (X : K.In hp) (hg : hp.Ns mainGlobals mg) (hgs : mg "super" = none) (hbn : hp.Ns builtinsNs mb) (hbs : mb "super" = some (.type "super")) (lim : hp.NoLimit) (room : A.depth < recursionLimit)
    {t0 : Addr} (hx : hp.get? x = some (xO C t0 none)) (hbind : ∀ (oc : Value) (od : Option Addr) (osl : Array (Option Value)) (fd : FuncData), K.lookup fI = some ⟨oc, od, .func fd, osl⟩ → BindsTo ⟨hp, g, d, t, os⟩ fd args ((("self" : Str), .ref x) :: ps.zip us)) (hxK : ∀ o, K.lookup x ≠ some o)
    (hq : ∀ h' t' t1 dx m', (∀ b o, b ≠ x → hp.get? b = some o → h'.get? b = some o) → hp.objs.size ≤ dx → dx ≠ x → h'.get? x = some (xO C t1 (some dx)) → h'.Ns1 dx m' → FM (lp :: l) (fun _ => none) m' → R (.ok (.ret .none)) ⟨h', g, d, t', os⟩) :
    codeAny (model prog w) A (.call (.ref fI) args) R ⟨hp, g, d, t, os⟩ := by
  obtain ⟨oc, od, osl, kV, doc, pm, an, ct, hf⟩ := O.fn
  obtain ⟨c1, d1, sl1, hcell⟩ := O.cell
  obtain ⟨c2, d2, vs, sl2, file, tf, hcode, hvs, hfile⟩ := O.code
  obtain ⟨ar, har, ear⟩ := I.hd
  have hnd : ((("self" : Str), Value.ref x) :: ps.zip us).reverse.lookup ("self" : Str) = some (.ref x) := by
    have e : ∀ (l : List (Str × Value)), (∀ p ∈ l, p.1 ≠ ("self" : Str)) → (l.reverse ++ [(("self" : Str), Value.ref x)]).lookup ("self" : Str) = some (.ref x) := by
      intro l hl
      rw [List.lookup_append]
      have : l.reverse.lookup ("self" : Str) = none := by
        rw [List.lookup_eq_none_iff]
        intro p hp
        have := hl p (List.mem_reverse.mp hp)
        simpa using fun z => this z.symm
      rw [this]
      rfl
    rw [List.reverse_cons]
    refine e _ fun p hp => ?_
    have h1 := (List.of_mem_zip (show (p.1, p.2) ∈ ps.zip us from hp)).1
    exact fun z => (List.nodup_cons.mp I.nd).1 (z ▸ h1)
  refine ks_codeAny_call_defAt (fd := ksFn nm qual (defArgs st) (defBody st) (defScope st) .none kV doc pm an (.ref cda) ct cc) (body := defBody st) (binds := (("self" : Str), .ref x) :: ps.zip us) room (X _ _ hf) rfl lim (codeRec_of X O.cd) rfl (hbind _ _ _ _ hf) I.cell (fun y hy => ?_) (fun h₁ hns hk₁ => ?_) I.co I.gen I.kind
  · rcases List.mem_cons.mp hy with rfl | hy
    · exact I.loc _ List.mem_cons_self
    · exact I.loc _ (List.mem_cons_of_mem _ (List.of_mem_zip (show (y.1, y.2) ∈ ps.zip us from hy)).1)
  show PySem.wpAt (model prog w) _ _ (execs (defBody st) (ksEnv qual (defScope st) hp.objs.size fI (.ref cda) cc)) _ _ _
  rw [show execs (defBody st) (ksEnv qual (defScope st) hp.objs.size fI (.ref cda) cc) = execs (.Expr (.Call (.Attribute (.Call (.Name "super" p0) [] [] p1) "__init__" p2) [.Constant (.str txt) j p3] [] p4) p5 :: s1 :: sts) (ksEnv qual (defScope st) hp.objs.size fI (.ref cda) cc) from by rw [hb]]
  have X1 : K.In h₁ := X.keeps hk₁
  have hL : x ≠ hp.objs.size := Nat.ne_of_lt (Heap.lt_size hx)
  obtain ⟨nm', N', qn, bs, bm, hdct, sn, sub, ab, col, dd, k0, k1, k2, k3, k5, hC, hT⟩ := excInit_of X1 O.q
  obtain ⟨cdC, hcd, _⟩ := any_some O.hd
  refine ks_wpAt_execs_cons (ks_wpAt_Expr_any (ks_wpAt_MethodCall (ks_wpAt_super_base I.sup I.cls rfl rfl (X1 _ _ hf) rfl har rfl (X1 _ _ hcode) rfl hvs hfile O.top ?_) (mc_eq hpp)) (by unfold interactive; rw [show (ksEnv qual (defScope st) hp.objs.size fI (Value.ref cda) cc).scope.kind = .function from I.kind]; rfl))
  refine ks_loadName_global I.kind I.sup (loadGlobal_builtin (hg.keeps hk₁) hgs (hbn.keeps hk₁) hbs ⟨rfl, ?_⟩)
  refine wpAny_loadName_free I.kind I.cls rfl ⟨_, X1 _ _ hcell, rfl⟩ ?_
  rw [ear]
  refine wpAny_loadName_local I.kind (I.loc _ List.mem_cons_self) hns hnd ?_
  refine ks_wpAny_isType_cls hC rfl ⟨rfl, ?_⟩
  refine ks_wpAny_call_super hC rfl (hk₁ _ _ hx) rfl (fun c e => ?_) (looks_mroIn X1 O.mC) (fun h2 e2 k2 => ?_)
  · cases e
  have X2 : K.In h2 := X1.keeps k2
  have hx2 := k2 _ _ (hk₁ _ _ hx)
  have hxC : x ≠ C := fun z => by
    have e := hk₁ _ _ hx
    rw [z, hC] at e
    cases e
  have hI : Looks (model prog w) h2 (isInstance (.ref x) (.type B)) true := Looks.andThen (fun A Q E s k q => wpAny_typeOf_ref (k _ _ hx2) q) (looks_subIn X2 O.sB)
  have hm := O.sup
  unfold ks_superIn at hm
  rw [hcd] at hm
  refine kxs_getMethod S.kf e2 (looks_opaque X2 O.op) (l₀ := cdC.mro) (fun A Q E s k q => wpAny_bind ((looks_clsIn X2 hcd) A _ E s k (wpAny_pure q))) rfl X2 hm hI hxC rfl ?_
  have hu : ((h2.push (kxs_mw initId x)).get? h2.objs.size) = some (kxs_mw initId x) := Heap.get?_push_at rfl rfl
  have k3 : ∀ b o, h2.get? b = some o → (h2.push (kxs_mw initId x)).get? b = some o := fun b o e => Heap.get?_push_of_some _ e
  refine kxs_callWith (i := initId) (x := x) (u := h2.objs.size) (first := []) rfl (evalArgs_plain (x := eval (.Constant (.str txt) j p3) (ksEnv qual (defScope st) hp.objs.size fI (Value.ref cda) cc)) (rest := backTo p4 (starEach [] (ksEnv qual (defScope st) hp.objs.size fI (Value.ref cda) cc))) ?_)
  refine spliced_cons (wpAny_Constant_str (spliced_nil ⟨hu, ?_⟩))
  refine call_mw S.fb (X2.keeps k3) O.q hu (k3 _ _ hx2) (by simp [sizeLine_eq]) fun h4 t4 k4 hx4 => ?_
  have kx : ∀ b o, b ≠ x → hp.get? b = some o → h4.get? b = some o := fun b o hb e => k4 b o hb (k3 _ _ (k2 _ _ (hk₁ _ _ e)))
  have X4 : K.In h4 := fun b o e => kx b o (fun z => hxK o (z ▸ e)) (X b o e)
  have hn4 : h4.Ns hp.objs.size (fun y => (((("self" : Str), Value.ref x) :: ps.zip us).reverse.lookup y)) := by
    obtain ⟨o, es, ep, h1, h2'⟩ := hns
    exact ⟨o, es, ep, k4 _ _ hL.symm (k3 _ _ (k2 _ _ h1)), h2'⟩
  refine wpAt_of_wpAny (asg_new (env := ksEnv qual (defScope st) hp.objs.size fI (Value.ref cda) cc) S.sf O.sa O.ov O.hd I.kind (I.loc _ List.mem_cons_self) hnd hxK hL (hal _ _) X4 hn4 hx4 hz fun h5 t5 dx m5 k5 hdx hne hx5 hm5 fm => ?_)
  refine hq h5 t5 t4 dx m5 (fun b o hb e => k5 b o hb (kx b o hb e)) (Nat.le_trans ?_ hdx) hne hx5 hm5 fm
  exact Nat.le_of_lt hn4.lt
end
end XN

set_option Elab.async false
set_option linter.all false
set_option maxRecDepth 100000
set_option maxHeartbeats 4000000
/-! E3: the class called, with keywords too; the new exception raised, or held as a value. -/
namespace XN
open PySem PySem.Spec PyProof.Rows PySem.W PySem.Calls Builtin Builtin.ObjectAttr HandSPX
section
variable {M : Model} {A : Around} {E : Value → Shared → Prop} {h : Heap} {g : Array GenState} {d : Drawn} {t : Nat} {os : OsState}
variable {nm q : Str} {C N : Addr} {bs bm bmB : List Value} {hdct : Bool} {sn : List Str} {sub : List Value} {ab : Bool} {col : Option Bool} {dd : Option Addr} {k0 k1 k2 k3 k5 : Option Value} {B newId initId : String} {kw : List (Str × Value)}
theorem check_newK (F : ExcBaseFacts B newId initId bmB) (hT : ∀ X : String, bm.contains (.type X) = bmB.contains (.type X)) {rest : List Value} {Q : Unit → Shared → Prop}
    (hC : h.get? C = some (excClassObj nm q C N bs bm hdct sn sub ab col dd k0 k1 k2 k3 k5 newId)) (hq : Q () ⟨h, g, d, t, os⟩) : wpAny M A (checkBuiltinCall newId ⟨.ref C :: rest, kw⟩) Q E ⟨h, g, d, t, os⟩ := by
  have hcont : (Value.ref C :: bm).contains (.type B) = true := by rw [List.contains_cons, hT, F.hasB, Bool.or_true]
  have hstar := F.noStar
  simp only [checkBuiltinCall, F.newKind, F.newSplit, F.newRow]
  repeat (first | refine wpAny_loadPart_at hC ?_ | (refine wpAny_isSubtype_exc hC ?_; rw [hcont]) | refine wpAny_staticBase_exc hC ?_ | refine wpAny_madeBy_exc hC ?_ | simp only [bne_self_eq_false, Bool.false_eq_true, if_false] | wp_step)
  exact hq
end
section
variable {prog : Program} {w : World} {A : Around} {E : Value → Shared → Prop} {R : Result → Shared → Prop} {h : Heap} {g : Array GenState} {d : Drawn} {t : Nat} {os : OsState}
variable {nm q : Str} {C N : Addr} {bs bm bmB : List Value} {hdct : Bool} {sn : List Str} {sub : List Value} {ab : Bool} {col : Option Bool} {dd : Option Addr} {k0 k1 k2 k3 k5 : Option Value} {B newId initId : String} {kw : List (Str × Value)}
theorem newK (F : ExcBaseFacts B newId initId bmB) (hT : ∀ X : String, bm.contains (.type X) = bmB.contains (.type X)) {rest : List Value}
    (hC : h.get? C = some (excClassObj nm q C N bs bm hdct sn sub ab col dd k0 k1 k2 k3 k5 newId))
    (hq : R (.ok (.ret (.ref (h.objs.size + 1)))) ⟨(h.push (kdv_tup rest)).push (excO C h.objs.size), g, d, t, os⟩) (hrest : rest.length ≤ sizeLine) :
    codeAny (model prog w) A (.builtin newId ⟨.ref C :: rest, kw⟩) R ⟨h, g, d, t, os⟩ := by
  have hends := F.ends
  have hcB : (Value.ref C :: bm).contains (.type B) = true := by rw [List.contains_cons, hT, F.hasB, Bool.or_true]
  have hcA : (Value.ref C :: bm).contains (.type "AttributeError") = false := by rw [List.contains_cons, hT, F.noAttr]; rfl
  have hcN : (Value.ref C :: bm).contains (.type "NameError") = false := by rw [List.contains_cons, hT, F.noName]; rfl
  refine codeAny_builtinAt F.entry ?_
  unfold Builtin.«BaseException.__new__»
  refine _root_.PySem.wpAt_bind ?_
  show _root_.PySem.wpAt _ _ _ (_root_.PySem.stack >>= _) _ _ _
  refine _root_.PySem.wpAt_bind (_root_.PySem.wpAt_stack fun p below => _root_.PySem.wpAt_of_wpAny ?_)
  wp_walk
  refine _root_.PySem.wpAt_of_wpAny ?_
  rw [F.owner]
  repeat (first | with_reducible refine wpAny_madeHere_exc F.canon hC ?_ | with_reducible refine wpAny_loadPart_at hC ?_ | (with_reducible refine wpAny_isSubtype_exc hC ?_; first | rw [hcB] | rw [hcA] | rw [hcN]) | wp_step)
  show R _ _
  rw [Heap.size_push]
  exact hq
theorem type_callK (F : ExcBaseFacts B newId initId bmB) (hT : ∀ X : String, bm.contains (.type X) = bmB.contains (.type X)) {rest : List Value} {fI : Addr} {Q : Fin → Shared → Prop}
    (hC : h.get? C = some (excClassObj nm q C N bs bm hdct sn sub ab col dd k0 k1 k2 k3 k5 newId))
    (hi : Looks (model prog w) h (typeLookup (.ref C) "__init__") (some (.ref fI))) (hb : ∀ self, Looks (model prog w) h (bindSpecial (.ref fI) self) (.ref fI, [self])) (hrest : rest.length ≤ sizeLine)
    (hq : codeAny (model prog w) A (.call (.ref fI) ⟨.ref (h.objs.size + 1) :: rest, kw⟩)
      (fun r s' => match r with | .ok (.ret v) => v = .none ∧ Q (.done (.ret (.ref (h.objs.size + 1)))) s' | .ok _ => False | .error e => E e s')
      ⟨(h.push (kdv_tup rest)).push (excO C h.objs.size), g, d, t, os⟩) :
    wpAny (model prog w) A (Builtin.«type.__call__» ⟨.ref C :: rest, kw⟩) Q E ⟨h, g, d, t, os⟩ := by
  repeat (first | with_reducible refine wpAny_loadPart_at hC ?_ | with_reducible refine wpAny_madeBy_exc hC ?_ | wp_step)
  refine codeAny_call_builtin_code (Code.quiet_builtin _ F.quiet) (check_newK F hT hC ?_)
  refine newK F hT hC ?_ hrest
  show wpAny _ _ _ _ _ _
  have k : ∀ b o, h.get? b = some o → ((h.push (kdv_tup rest)).push (excO C h.objs.size)).get? b = some o := fun b o e => Heap.get?_push_of_some _ (Heap.get?_push_of_some _ e)
  have hC₁ := k _ _ hC
  have hget : ((h.push (kdv_tup rest)).push (excO C h.objs.size)).get? (h.objs.size + 1) = some (excO C h.objs.size) := by heap_get
  have hcC : (Value.ref C :: bm).contains (.ref C) = true := by simp
  have i1 := hi.keeps k
  have b1 := (hb (.ref (h.objs.size + 1))).keeps k
  unfold isInstance
  repeat (first | with_reducible refine wpAny_loadPart_at hget ?_ | (with_reducible refine wpAny_isSubtype_exc hC₁ ?_; rw [hcC]) | wp_step)
  show wpAny _ _ (typeLookup (.ref C) _) _ _ _
  refine i1.at ?_
  refine wpAny_holding (wpAny_bind (b1.at ?_))
  refine wpAny_bind (wpAny_call (codeAny_mono hq fun r s' z => ?_))
  rcases r with e | (v | _ | _ | _) <;> first | exact z | exact z.elim | skip
  obtain ⟨rfl, z⟩ := z
  first
    | exact wpAny_pure (wpAny_pure z)
    | (wp_walk; exact z)
theorem call_ownK (F : ExcBaseFacts B newId initId bmB) (hT : ∀ X : String, bm.contains (.type X) = bmB.contains (.type X)) {rest : List Value} {fI : Addr}
    (hC : h.get? C = some (excClassObj nm q C N bs bm hdct sn sub ab col dd k0 k1 k2 k3 k5 newId))
    (hi : Looks (model prog w) h (typeLookup (.ref C) "__init__") (some (.ref fI))) (hb : ∀ self, Looks (model prog w) h (bindSpecial (.ref fI) self) (.ref fI, [self])) (hrest : rest.length ≤ sizeLine)
    (hq : codeAny (model prog w) (A.under (.builtin "type.__call__" ⟨.ref C :: rest, kw⟩)) (.call (.ref fI) ⟨.ref (h.objs.size + 1) :: rest, kw⟩) (InitBack (h.objs.size + 1) R)
      ⟨(h.push (kdv_tup rest)).push (excO C h.objs.size), g, d, t, os⟩) :
    codeAny (model prog w) A (.call (.ref C) ⟨rest, kw⟩) R ⟨h, g, d, t, os⟩ := by
  have f1 := tc_lookup
  have f2 := tc_bind (.ref C)
  have hTy : (⟨h, g, d, t, os⟩ : Shared).TypeIs (.ref C) "type" := ⟨_, hC, rfl⟩
  refine codeAny_of_tree ?_
  show wpAny _ _ (callAny (.ref C) _) _ _ _
  repeat (any_goals (first | assumption | with_reducible refine wpAny_loadPart_at hC ?_ | wp_step))
  refine ⟨rfl, ?_⟩
  refine codeAny_call_builtin_at (Code.quiet_builtin _ (by decide +kernel)) entry_typeCall (wpAny_check_type_call_sub hC (type_callK F hT hC hi hb hrest ?_))
  refine codeAny_mono hq fun r s' z => ?_
  rcases r with e | (v | _ | _ | _) <;> exact z
end
end XN

set_option Elab.async false
set_option linter.all false
set_option maxRecDepth 100000
set_option maxHeartbeats 4000000
/-! E4: own exceptions made, as rules over data. -/
namespace XN
open PySem PySem.Spec PyProof.Rows L2

/-- the stores of the text: self.f = f -/
inductive SL : List Stmt → List Str → Prop
  | nil : SL [] []
  | cons {f : Str} {p1 p2 p3 p4 : Pos} {r : List Stmt} {l : List Str} (h : SL r l) (hd : (f == ("__debug__" : Str)) = false) : SL (.Assign [.Attribute (.Name "self" p1) f p2] (.Name f p3) p4 :: r) (f :: l)
/-- the body of such an __init__ -/
structure XBody (st : Stmt) (code : Str) (ps : List Str) : Prop where
  ex : ∃ (txt : Str) (j j2 : Nat) (p0 p1 p2 p3 p4 p5 q1 q2 q3 q4 : Pos) (sts : List Stmt), (p2.endLine == p4.line) = true ∧ SL sts ps ∧
    defBody st = .Expr (.Call (.Attribute (.Call (.Name "super" p0) [] [] p1) "__init__" p2) [.Constant (.str txt) j p3] [] p4) p5 :: .Assign [.Attribute (.Name "self" q1) "code" q2] (.Constant (.str code) j2 q3) q4 :: sts

section
variable {prog : Program} {w : World} {A : Around} {env : Env} {K : PySem.W.Frag} {C : Addr} {m0 : Str → Option Value}
theorem al_of (hk : env.scope.kind = .function) : ∀ {sts : List Stmt} {fs : List Str}, SL sts fs → ∀ {us : List Value}, us.length = fs.length → (∀ f ∈ fs, PySem.W.takerIn K C f = some none) → (∀ f ∈ fs, env.kindOf f = some .local) →
    (∀ (i : Nat) f u, fs[i]? = some f → us[i]? = some u → m0 f = some u) → AL prog w A env K C m0 sts ((fs.zip us).map fun p => (p.1, fun v => v = p.2)) := by
  intro sts fs H
  induction H with
  | nil => intro us _ _ _ _; exact .nil
  | @cons f p1 p2 p3 p4 r l h hd ih =>
    intro us hl ht hk2 hm
    cases us with
    | nil => cases hl
    | cons u us =>
      refine .cons (opd_nm hk (hk2 f List.mem_cons_self) (hm 0 f u rfl rfl) hd) (ht f List.mem_cons_self) (by rfl) (ih (by simpa using hl) (fun g hg => ht g (List.mem_cons_of_mem _ hg)) (fun g hg => hk2 g (List.mem_cons_of_mem _ hg)) fun i g v h1 h2 => hm (i + 1) g v (by simpa using h1) (by simpa using h2))
theorem fm_rel : ∀ {ps : List Str} {vs : List V} {us : List Value} {L : List (Str × V)} {m m' : Str → Option Value}, Vals vs us → FM ((ps.zip us).map fun p => (p.1, fun v => v = p.2)) m m' → (∀ f, RelO (L.lookup f) (m f)) →
    ∀ f, RelO (((ps.zip vs).reverse ++ L).lookup f) (m' f)
  | [], _, _, L, m, m', _, h, r => by
    have h : m = m' := h
    subst h
    simpa using r
  | p :: ps, _, _, L, m, m', .nil, h, r => by
    have h : m = m' := h
    subst h
    simpa using r
  | p :: ps, _, _, L, m, m', .cons ru rr, h, r => by
    obtain ⟨v, hv, h⟩ := h
    subst hv
    have := fm_rel (ps := ps) rr h (L := (p, _) :: L) fun g => relO_put ru r g
    intro f
    have := this f
    simpa using this
end
/-- the fields of the new exception -/
def xks (ps : List Str) : List Str := ps.reverse ++ [("code" : Str)]
def xvs (code : Str) (vs : List V) : List V := vs.reverse ++ [.str code]
theorem zip_rev {α β : Type} : ∀ {a : List α} {b : List β}, a.length = b.length → a.reverse.zip b.reverse = (a.zip b).reverse
  | [], [], _ => rfl
  | x :: a, y :: b, h => by
    have h' : a.length = b.length := by simpa using h
    rw [List.reverse_cons, List.reverse_cons, List.zip_append (by simpa using h'), zip_rev h']
    simp
theorem xks_zip {ps : List Str} {vs : List V} {code : Str} (h : vs.length = ps.length) : (xks ps).zip (xvs code vs) = (ps.zip vs).reverse ++ [(("code" : Str), V.str code)] := by
  unfold xks xvs
  rw [List.zip_append (by simpa using h.symm), zip_rev h.symm]
  rfl

/-- all that is known of an own exception class -/
structure XC (K : PySem.W.Frag) (prog : Program) (C : Addr) (code : Str) (ps : List Str) (st : Stmt) : Prop where
  ex : ∃ (fI cc cda : Addr) (B newId initId : String) (bmB : List Value) (nm qual : Str), Bas B newId initId bmB ∧ OwnX K prog C fI cc cda B newId initId bmB nm qual st ("code" :: ps) ∧ InitS st ps ∧ XBody st code ps ∧ PySem.W.nsIn K mainGlobals "super" = some none
/-- how the arguments come to the parameters -/
def BindX (K : PySem.W.Frag) (C : Addr) (ps : List Str) (rest : List Value) (kw : List (Str × Value)) (us : List Value) : Prop :=
  ∀ (fI : Addr) (oc : Value) (od : Option Addr) (osl : Array (Option Value)) (fd : FuncData) (e : Addr), PySem.W.findIn K (.ref C) "__init__" = some (some (.ref fI)) → K.lookup fI = some ⟨oc, od, .func fd, osl⟩ → bindArgs fd ⟨.ref e :: rest, kw⟩ = pure ((("self" : Str), .ref e) :: ps.zip us)
theorem XC.bind {K : PySem.W.Frag} {prog : Program} {C : Addr} {code : Str} {ps : List Str} {st : Stmt} (T : XC K prog C code ps st) {rest us : List Value} {kw : List (Str × Value)}
    (h : ∀ (x qual : Str) (kV doc pm : Value) (an : Option Addr) (cdv ct : Value) (cc : Addr) (u : Value), bindArgs (PySem.W.ksFn x qual (defArgs st) (defBody st) (defScope st) .none kV doc pm an cdv ct cc) ⟨u :: rest, kw⟩ = pure ((("self" : Str), u) :: ps.zip us)) : BindX K C ps rest kw us := by
  intro fI oc od osl fd e hfi hl
  obtain ⟨fI', cc, cda, B, newId, initId, bmB, nm, qual, S, O, IS, XB, hsn⟩ := T.ex
  rw [O.hi] at hfi
  cases hfi
  obtain ⟨oc', od', osl', kV, doc, pm, an, ct, hf⟩ := O.fn
  rw [hf] at hl
  cases hl
  exact h _ _ _ _ _ _ _ _ _ _
theorem XC.bindP {K : PySem.W.Frag} {prog : Program} {C : Addr} {code : Str} {ps : List Str} {st : Stmt} (T : XC K prog C code ps st) (us : List Value) (hl : us.length = ps.length) : BindX K C ps us [] us := by
  obtain ⟨fI', cc, cda, B, newId, initId, bmB, nm, qual, S, O, IS, XB, hsn⟩ := id T.ex
  exact T.bind fun x qual kV doc pm an cdv ct cc u => IS.bind x qual kV doc pm an cdv ct cc u us hl
section
variable {X : Cx} {pins : List (Addr × Obj)} {σ : L2.St} {H : Hp} {s : Shared} {C : Addr} {code : Str} {ps : List Str} {rest us : List Value} {kw : List (Str × Value)} {vs : List V} {Q : Value → Shared → Prop}
theorem run_mk {st : Stmt} (T : XC X.K X.prog C code ps st) (I : Inv X pins σ H s) (hd : X.A.depth + 2 < recursionLimit) (hr : rest.length ≤ sizeLine) (r : Vals vs us) (hl : us.length = ps.length) (hl2 : ps.length ≤ 800) (hb : BindX X.K C ps rest kw us)
    (hq : ∀ e dx t1 h' t' mA, (∀ b o, s.heap.get? b = some o → h'.get? b = some o) → s.heap.objs.size ≤ e → s.heap.objs.size ≤ dx → dx ≠ e → h'.get? e = some (xO C t1 (some dx)) → h'.Ns1 dx mA → (∀ f, RelO (((xks ps).zip (xvs code vs)).lookup f) (mA f)) → Q (.ref e) { s with heap := h', toks := t' }) :
    wpAny (model X.prog X.w) X.A (call (.ref C) rest kw) Q X.xe s := by
  obtain ⟨fI, cc, cda, B, newId, initId, bmB, nm, qual, S, O, IS, ⟨txt, j, j2, p0, p1, p2, p3, p4, p5, q1, q2, q3, q4, sts, hpp, hsl, hbody⟩, hsn⟩ := T.ex
  obtain ⟨nm', N', qn, bs, bm, hdct, sn, sub, ab, col, dd, k0, k1, k2, k3, k5, hC, hT⟩ := PySem.W.excInit_of I.kIn O.q
  obtain ⟨oc, od, osl, kV, doc, pm, an, ct, hf⟩ := id O.fn
  obtain ⟨mb, hmb, hmb2⟩ := I.mod.blt
  obtain ⟨oI, hoI, hcI⟩ : ∃ oI, s.heap.get? fI = some oI ∧ oI.cls = .type "function" := by
    obtain ⟨o, ho, hc⟩ := Option.map_eq_some_iff.mp (show (X.K.lookup fI).map (·.cls) = some (.type "function") from beq_iff_eq.mp O.isF)
    exact ⟨o, I.kIn _ _ ho, hc⟩
  have hgl := I.mod.glob.keeps I.bk
  have hbl := hmb.keeps I.bk
  have hmg : X.mg "super" = none := PySem.W.mg_none_of I.ok.mod.kin I.mod.glob hsn
  have lim := I.nolimit
  obtain ⟨hp, g, dr, tk, os⟩ := s
  have kk : ∀ b o, hp.get? b = some o → ((hp.push (PySem.W.kdv_tup rest)).push (PySem.HandSPX.excO C hp.objs.size)).get? b = some o := fun b o e => Heap.get?_push_of_some _ (Heap.get?_push_of_some _ e)
  have hx : ((hp.push (PySem.W.kdv_tup rest)).push (PySem.HandSPX.excO C hp.objs.size)).get? (hp.objs.size + 1) = some (xO C hp.objs.size none) := by heap_get
  have hxK : ∀ o, X.K.lookup (hp.objs.size + 1) ≠ some o := fun o e => absurd (Heap.lt_size (I.kIn _ _ e)) (by
    show ¬ hp.objs.size + 1 < hp.objs.size
    omega)
  refine wpAny_call (call_ownK S.fb hT hC (PySem.W.looks_findIn I.kIn O.hi) (fun self => PySem.W.exc_bind hoI hcI self) hr ?_)
  have hm0 : ∀ (i : Nat) f u, ps[i]? = some f → us[i]? = some u → ((("self" : Str), Value.ref (hp.objs.size + 1)) :: ps.zip us).reverse.lookup f = some u := fun i f u h1 h2 => by
    have nd := List.nodup_cons.mp IS.nd
    have hz : (ps.zip us)[i]? = some (f, u) := by rw [List.getElem?_zip_eq_some]; exact ⟨h1, h2⟩
    have hmem : (f, u) ∈ (ps.zip us).reverse := List.mem_reverse.mpr (List.mem_of_getElem? hz)
    rw [List.reverse_cons, List.lookup_append]
    have key : ∀ (l : List (Str × Value)), (l.map (·.1)).Nodup → (f, u) ∈ l → l.lookup f = some u := by
      intro l
      induction l with
      | nil => intro _ h; cases h
      | cons p l ih =>
        intro hn hm
        obtain ⟨k, v⟩ := p
        rw [List.lookup_cons]
        rcases List.mem_cons.mp hm with e | hm
        · cases e
          simp
        · have hn := List.nodup_cons.mp (show (k :: l.map (·.1)).Nodup from hn)
          have : (f == k) = false := by
            have : f ≠ k := fun z => hn.1 (z ▸ List.mem_map.mpr ⟨(f, u), hm, rfl⟩)
            simpa using this
          rw [this]
          exact ih hn.2 hm
    rw [key _ (by rw [List.map_reverse, List.map_fst_zip (by omega)]; exact List.pairwise_reverse.mpr (nd.2.imp fun h => h.symm)) hmem]
    rfl
  refine run_init S O IS hpp hbody (us := us) (l := (ps.zip us).map fun p => (p.1, fun v => v = p.2)) (lp := (("code" : Str), fun u => ∃ k, u = Value.str code k)) (fun A' L => .cons opd_str (O.tk _ List.mem_cons_self) (by rfl)
      (al_of (env := PySem.W.ksEnv qual (defScope st) L fI (.ref cda) cc) IS.kind hsl hl (fun f hf => O.tk f (List.mem_cons_of_mem _ hf)) (fun f hf => IS.loc f (List.mem_cons_of_mem _ hf)) hm0)) (by rw [List.length_map, List.length_zip]; omega)
    (I.kIn.keeps kk) (hgl.keeps kk) hmg (hbl.keeps kk) ((hmb2 _ (by decide)).trans (by decide +kernel)) (lim.keeps kk) ?_ hx (fun oc od osl fd hf' => .of_eq (hb fI oc od osl fd _ O.hi hf')) hxK fun h' t' t1 dx m' k hsz hne hx' hn' fm => ?_
  · rw [make_depth]
    omega
  · refine ⟨rfl, ?_⟩
    obtain ⟨v, ⟨k0, hv⟩, fm⟩ := fm
    subst hv
    have ne : ∀ b o, hp.get? b = some o → b ≠ hp.objs.size + 1 := fun b o e => Nat.ne_of_lt (Nat.lt_succ_of_lt (Heap.lt_size e))
    have rel := fm_rel (L := [(("code" : Str), V.str code)]) r fm (fun f => by
      rw [lookup_put]
      by_cases e : f = ("code" : Str)
      · rw [if_pos e, if_pos e]
        exact ⟨k0, rfl⟩
      · rw [if_neg e, if_neg e]
        exact True.intro)
    have hvl : vs.length = ps.length := r.length.trans hl
    refine hq (hp.objs.size + 1) dx t1 h' t' m' (fun b o e => k b o (ne b o e) (kk b o e)) (Nat.le_succ _) ?_ hne hx' hn' (by rw [xks_zip hvl]; exact rel)
    rw [Heap.size_push, Heap.size_push] at hsz
    show hp.objs.size ≤ dx
    omega
end
end XN

set_option Elab.async false
set_option linter.all false
set_option maxRecDepth 100000
set_option maxHeartbeats 4000000
/-! E5: own exceptions made: raised, or held as values; by data. -/
namespace HM
open PySem PySem.Spec PyProof.Rows L2 XN

/-- the class that the module's name x means -/
structure Xm (P : Program) (K : PySem.W.Frag) (mg : Str → Option Value) (x : Str) (C : Addr) (code : Str) (ps : List Str) (st : Stmt) : Prop where
  mg : mg x = some (.ref C)
  kC : PySem.W.keepIn K (.ref C) = true
  exC : PySem.W.subIn K (.ref C) (.type "BaseException") = some true
  tyC : PySem.W.typeIn K (.ref C) = some (.type "type")
  xc : XC K P C code ps st
  len : ps.length ≤ 800
theorem Reps.rev {K : PySem.W.Frag} {F : Hp} : ∀ {l : List Dt} {vs : List V}, Reps K F l vs → Reps K F l.reverse vs.reverse
  | [], _, h => by
    have h : _ = [] := h
    rw [h]
    exact rfl
  | d :: l, vs, h => by
    obtain ⟨v, r, rfl, e2, e3⟩ := h
    rw [List.reverse_cons, List.reverse_cons]
    exact (Reps.rev e3).app (Reps.one e2)
/-- the data of the fields -/
def xds (code : Str) (ds : List Dt) : List Dt := ds.reverse ++ [.str code]
theorem xds_rep {K : PySem.W.Frag} {F : Hp} {code : Str} {ds : List Dt} {vs : List V} (h : Reps K F ds vs) : Reps K F (xds code ds) (xvs code vs) := h.rev.app (Reps.one rfl)
theorem xvs_len {ps : List Str} {code : Str} {vs : List V} (h : vs.length = ps.length) : (xks ps).length = (xvs code vs).length := by
  unfold xks xvs
  simp [h]

section
variable {X : Cx} {pins : List (Addr × Obj)} {σ : L2.St} {H : Hp} {s : Shared} {e dx t1 C : Addr} {h' : Heap} {t' : Nat} {mA : Str → Option Value} {fs : List (Str × V)}
/-- the new exception as a tracked value -/
theorem Inv.madeX (I : Inv X pins σ H s) (k : ∀ b o, s.heap.get? b = some o → h'.get? b = some o) (he : s.heap.objs.size ≤ e) (hd : s.heap.objs.size ≤ dx) (ne : dx ≠ e) (hx : h'.get? e = some (xO C t1 (some dx))) (hn : h'.Ns1 dx mA) (r : ∀ f, RelO (fs.lookup f) (mA f)) :
    Inv X pins σ (upd (upd H dx (exd dx fs)) e (exo e C (some dx))) { s with heap := h', toks := t' } := by
  have ne_ : H e = none := I.hok.fresh he
  have nd_ : H dx = none := I.hok.fresh hd
  have be : ∀ {b : Addr} {o : Obj}, s.heap.get? b = some o → b ≠ e := fun {b o} q => Nat.ne_of_lt (Nat.lt_of_lt_of_le (Heap.lt_size q) he)
  have bd : ∀ {b : Addr} {o : Obj}, s.heap.get? b = some o → b ≠ dx := fun {b o} q => Nat.ne_of_lt (Nat.lt_of_lt_of_le (Heap.lt_size q) hd)
  refine I.un (t' := t') {
    keep := fun b o q _ _ _ => k b o q
    slot := fun b o q _ _ _ => ⟨o.slots, k b o q⟩
    free := fun b o q n _ => by rw [upd_ne (be q), upd_ne (bd q)]; exact n
    there := fun b o q _ => ⟨o, k b o q⟩
    tups := fun b xs q => by rw [upd_ne (ne_of_none q ne_), upd_ne (ne_of_none q nd_)]; exact q
    frzs := fun b o v q => by rw [upd_ne (ne_of_none q ne_), upd_ne (ne_of_none q nd_)]; exact q
    tbls := fun b ps q => ⟨#[], by rw [upd_ne (ne_of_none q ne_), upd_ne (ne_of_none q nd_), q]; simp⟩ } fun b o q => ?_
  by_cases hb : b = e
  · subst hb
    rw [upd_same] at q
    cases q
    exact exo_ok hx
  · rw [upd_ne hb] at q
    by_cases hd' : b = dx
    · subst hd'
      rw [upd_same] at q
      cases q
      exact exd_ok hn r
    · rw [upd_ne hd'] at q
      exact (I.hok b o q).stay (fun c v hc z => k c v z) (fun c hc => by rw [upd_ne (ne_of_none hc ne_), upd_ne (ne_of_none hc nd_)]; exact hc) (fun c xs hc => by rw [upd_ne (ne_of_none hc ne_), upd_ne (ne_of_none hc nd_)]; exact hc)
/-- .. as the exception that is to be raised -/
theorem mkP_made {Q : XK} (I : Inv X pins σ H s) (k : ∀ b o, s.heap.get? b = some o → h'.get? b = some o) (he : s.heap.objs.size ≤ e) (hd : s.heap.objs.size ≤ dx) (ne : dx ≠ e) (hx : h'.get? e = some (xO C t1 (some dx))) (hn : h'.Ns1 dx mA) (r : ∀ f, RelO (fs.lookup f) (mA f))
    (T : Raises X (.ref C)) (q : Q (.ref C) (some dx) (upd H dx (.xd fs))) : L2N.MkP X pins σ Q (.ref e) { s with heap := h', toks := t' } := by
  obtain ⟨G, g1, g2⟩ := restrict h' fun b => decide (b ≠ e)
  have gk : ∀ b, b ≠ e → G.get? b = h'.get? b := fun b hb => g1 b (decide_eq_true hb)
  have ge : G.get? e = none := g2 e (by simp)
  have be : ∀ {b : Addr} {o : Obj}, s.heap.get? b = some o → b ≠ e := fun {b o} q => Nat.ne_of_lt (Nat.lt_of_lt_of_le (Heap.lt_size q) he)
  have J : Inv X pins σ (upd H dx (.xd fs)) { s with heap := G, toks := t' } := I.laid (a := dx) (o := .xd fs) (fun b o z => (gk b (be z)).trans (k b o z)) hd ⟨mA, hn.at fun o y => (gk dx ne).trans y, r⟩
  refine ⟨e, _, _, { s with heap := G, toks := t' }, _, .ref C, some dx, rfl, J, fun b o z => ?_, ge, hx, ⟨rfl, rfl, fun vs z => by cases z; rfl⟩, rfl, rfl, ?_, rfl, I.bare, T, q⟩
  · by_cases hb : b = e
    · have z : G.get? b = some o := z
      rw [hb, ge] at z
      cases z
    · exact (gk b hb).symm.trans z
  · rw [upd_ne (Ne.symm ne)]
    exact I.hok.fresh he
end

section
variable {X : Cx} {x : Str} {C : Addr} {code : Str} {ps : List Str} {st : Stmt} {e : Expr} {es : List Expr} {ta : TA} {p pos : Pos}
/-- x(e, ..), an own exception class, as a value -/
theorem pe_mkX (T : Xm X.prog X.K X.mg x C code ps st) (hd : X.A.depth + 2 < recursionLimit) (ha : PA X (e :: es) ta) (hg : Gl X x := by rfl) (hdb : (x == ("__debug__" : Str)) = false := by decide)
    (he : starEach (e :: es) X.env = (false, eval e X.env) :: starEach es X.env := by rfl) (hpl : (backTo pos (starEach es X.env)).any (·.1) = false := by rfl) :
    PE X (.Call (.Name x p) (e :: es) [] pos) (fun σ H Q => ta σ H fun vs H1 => vs.length = ps.length ∧ ∀ a d, H1 a = none → H1 d = none → d ≠ a → Q (.ref a) (upd (upd H1 d (exd d ((xks ps).zip (xvs code vs)))) a (exo a C (some d)))) := by
  refine ⟨fun pins s σ H Q I h => ?_⟩
  refine wpAny_Call_Name_kw (ld_glob I hg T.mg ?_ hdb)
  refine PySem.W.callWith_K (h₀ := X.base) I.ok.mod.kin T.kC (thn (ha.run pos pins s σ H _ I h) fun us s1 ⟨vs, H1, I1, r1, hl, q⟩ => ⟨I1.kIn, ?_⟩) he hpl
  have hul : us.length = ps.length := r1.length.symm.trans hl
  refine run_mk T.xc I1 hd (by show us.length ≤ sizeLine; rw [hul, sizeLine_eq]; exact Nat.le_trans T.len (by decide)) r1 hul T.len (T.xc.bindP us hul) fun a dx t1 h' t' mA k hae hde ne hx hn r => ?_
  exact ⟨.ref a, _, Inv.madeX I1 k hae hde ne hx hn r, rfl, q a dx (I1.hok.fresh hae) (I1.hok.fresh hde) ne⟩
theorem pmk_mkX (T : Xm X.prog X.K X.mg x C code ps st) (hd : X.A.depth + 2 < recursionLimit) (ha : PA X (e :: es) ta) (hg : Gl X x := by rfl) (hdb : (x == ("__debug__" : Str)) = false := by decide)
    (he : starEach (e :: es) X.env = (false, eval e X.env) :: starEach es X.env := by rfl) (hpl : (backTo pos (starEach es X.env)).any (·.1) = false := by rfl) :
    L2N.PMk X (.Call (.Name x p) (e :: es) [] pos) (fun σ H Q => ta σ H fun vs H1 => vs.length = ps.length ∧ ∀ d, H1 d = none → Q (.ref C) (some d) (upd H1 d (.xd ((xks ps).zip (xvs code vs))))) := by
  intro pins s σ H Q I h
  refine wpAny_Call_Name_kw (ld_glob I hg T.mg ?_ hdb)
  refine PySem.W.callWith_K (h₀ := X.base) I.ok.mod.kin T.kC (thn (ha.run pos pins s σ H _ I h) fun us s1 ⟨vs, H1, I1, r1, hl, q⟩ => ⟨I1.kIn, ?_⟩) he hpl
  have hul : us.length = ps.length := r1.length.symm.trans hl
  refine run_mk T.xc I1 hd (by show us.length ≤ sizeLine; rw [hul, sizeLine_eq]; exact Nat.le_trans T.len (by decide)) r1 hul T.len (T.xc.bindP us hul) fun a dx t1 h' t' mA k hae hde ne hx hn r => ?_
  exact mkP_made I1 k hae hde ne hx hn r (raises_own T.exC T.tyC) (q dx (I1.hok.fresh hde))

variable {G : List (Option Dt)} {M M1 : Mst} {ds : List Dt} {kws : List Keyword} {T' : Po}
theorem ex_exc (T : Xm X.prog X.K X.mg x C code ps st) (hd : X.A.depth + 2 < recursionLimit) (ha : AX X (e :: es) G M ds M1) (hl : ds.length = ps.length := by rfl) (hg : Gl X x := by rfl) (hdb : (x == ("__debug__" : Str)) = false := by decide)
    (he : starEach (e :: es) X.env = (false, eval e X.env) :: starEach es X.env := by rfl) (hpl : (backTo pos (starEach es X.env)).any (·.1) = false := by rfl) : EX X (.Call (.Name x p) (e :: es) [] pos) G M (.exc C (xks ps) (xds code ds)) M1 :=
  ⟨ha.1, fun σ F H Q r s q => w_e (pe_mkX T hd pa_w hg hdb he hpl) (ha.2 σ F H _ r s fun vs F1 H1 g1 s1 r1 => ⟨r1.len.trans hl, fun a d na nd ne => by
    have s2 := s1.new (o := exd d ((xks ps).zip (xvs code vs))) nd
    have na2 : upd H1 d (exd d ((xks ps).zip (xvs code vs))) a = none := by rw [upd_ne (Ne.symm ne)]; exact na
    have s3 := s2.new (o := exo a C (some d)) na2
    have g2 := gr_new (o := exd d ((xks ps).zip (xvs code vs))) s1 nd
    have g3 := gr_new (o := exo a C (some d)) s2 na2
    refine q _ _ _ (gr2 ha.1 g1 (g2.trans' g3)) s3 ⟨a, d, xvs code vs, rfl, upd_same, ?_, xvs_len (r1.len.trans hl), xds_rep (Reps.mono (g2.sub.trans g3.sub) _ r1)⟩
    rw [upd_ne ne]
    exact upd_same⟩)⟩
theorem s1_raise (hc : X.calm = true) (T : Xm X.prog X.K X.mg x C code ps st) (hd : X.A.depth + 2 < recursionLimit) (ha : AX X (e :: es) G M ds M1) (h : T'.er G C (xks ps) (xds code ds) M1) {pos' : Pos} (hl : ds.length = ps.length := by rfl) (hg : Gl X x := by rfl) (hdb : (x == ("__debug__" : Str)) = false := by decide)
    (he : starEach (e :: es) X.env = (false, eval e X.env) :: starEach es X.env := by rfl) (hpl : (backTo pos (starEach es X.env)).any (·.1) = false := by rfl) : S1 X (.Raise (some (.Call (.Name x p) (e :: es) [] pos)) none pos') G M T' :=
  fun B σ H D hD ⟨W, tk, hE⟩ ⟨F, g0, s0, r0, m0⟩ => w_s (L2N.ps_raise hc tk (pmk_mkX T hd pa_w hg hdb he hpl)) (ha.2 σ F H _ r0 s0 fun vs F1 H1 g1 s1 r1 => ⟨r1.len.trans hl, fun d nd => by
    have s2 := s1.new (o := .xd ((xks ps).zip (xvs code vs))) nd
    have g2 := gr_new (o := .xd ((xks ps).zip (xvs code vs))) s1 nd
    exact hE G C _ _ M1 d (xvs code vs) σ _ _ h (by rw [ha.1]; exact m0) (g0.trans (gr2 ha.1 g1 g2) m0) s2 (r0.mono (g1.sub.trans g2.sub)) upd_same (xvs_len (r1.len.trans hl)) (xds_rep (Reps.mono g2.sub _ r1))⟩)
end
end HM

set_option Elab.async false
set_option linter.all false
set_option maxRecDepth 100000
set_option maxHeartbeats 4000000
/-! E6: exceptions as values: fields, isinstance; tracked, or caught. -/
namespace PySem.W
open PySem PySem.Spec PySem.Calls PyProof.Rows
section
variable {prog : Program} {w : World} {A : Around} {E : Value → Shared → Prop} {s : Shared} {K : Frag} {x D : Addr} {ox : Obj} {odx : Option Obj}
theorem findObj_dataD {C : Addr} {od : Option Obj} {name : Str} {a g : Value} (hc : (clsIn K C).isSome = true) (ha : findIn K (.ref C) name = some (some a)) (hg : specialIn K a "__get__" = some (some g)) (ht : takesIn K a = some true) : findObj K C od name = some (.bind g a) := by
  obtain ⟨cd, hc⟩ := Option.isSome_iff_exists.mp hc
  unfold findObj
  rw [hc, Option.bind_some, ha, Option.bind_some]
  simp [hg, ht]
theorem kin_classD {Q : Option Value → Shared → Prop} (T : L2.ExcC K D) (X : K.In s.heap) (I : InstAt s.heap x ox D odx) (h : Q (some (.ref D)) { s with toks := s.toks + 1 }) : wpAny (model prog w) A (getAttr? (.ref x) "__class__") Q E s := by
  have hf : findObj K D odx "__class__" = some (.bind (.builtin "getset_descriptor.__get__") (.builtin "object.__class__")) := findObj_dataD (by obtain ⟨cd, hc, _⟩ := any_some T.hd; rw [hc]; rfl) T.ha T.hn T.ht
  obtain ⟨hp, g, d, t, os⟩ := s
  have L0 := I.type (M := model prog w)
  have L1 := looks_findIn (M := model prog w) X T.hg
  have L2 := looks_findIn (M := model prog w) X T.hk
  have L3 := looks_find (M := model prog w) X I hf
  have sub : Looks (model prog w) hp (isInstance (.ref x) (.type "BaseException")) true := L0.andThen (looks_subIn X T.hs)
  have hx0 : (false && onTheHeap (Value.builtin "BaseException.__getattribute__")) = false := rfl
  have hx2 : (Value.builtin "BaseException.__getattribute__" == Value.builtin "object.__getattribute__") = false := by decide +kernel
  have hx1 : (onTheHeap (Value.ref D) && Value.builtin "BaseException.__getattribute__" == Value.builtin "object.__getattribute__") = false := by rw [hx2]; rfl
  unfold getAttr? getAttrBy? getAttrBy
  refine wpAny_bind (wpAny_mkText (wpAny_bind (wpAny_attempt (wpAny_holding (wpAny_bind (L0.at (wpAny_bind (L1.at ?_))))))))
  show wpAny _ _ (if (onTheHeap (Value.ref D) && Value.builtin "BaseException.__getattribute__" == Value.builtin "object.__getattribute__") = true then _ else _) _ _ _
  rw [hx1, if_neg Bool.false_ne_true]
  unfold getAttrByItsOwn hookBefore
  refine wpAny_bind ?_
  rw [if_pos (show onTheHeap (Value.ref D) = true from rfl)]
  refine L2.at ?_
  refine wpAny_bind (wpAny_attempt (wpAny_holding ?_))
  unfold callGetattribute
  rw [hx0, if_neg Bool.false_ne_true]
  unfold boundAndCalled
  rw [PySem.F.excAttr_ValueError.ga.bind (.ref x)]
  refine wpAny_bind (wpAny_pure ?_)
  show wpAny _ _ (call (.builtin "BaseException.__getattribute__") [.ref x, .str "__class__" t]) _ _ _
  refine wpAny_call (codeAny_call_builtin PySem.F.excAttr_ValueError.ga.plain PySem.F.entry_bexc_ga ?_)
  refine @check_slot (model prog w) _ _ ⟨hp, g, d, t + 1, os⟩ "BaseException.__getattribute__" "BaseException" "__getattribute__" (.ref x) [.str "__class__" t] [] _ (by decide +kernel) (by decide +kernel) sub (PySem.F.args_bexc_ga (.ref x) (.str "__class__" t)) ?_
  unfold Builtin.«object.__getattribute__»
  refine wpAny_bind (wpAny_of_eq (a := ((Value.ref x : Value), [Value.str "__class__" t])) (by first | rfl | (simp only [slotArgs]; rfl)) ?_)
  refine wpAny_bind (wpAny_pure (wpAny_bind (L0.at (wpAny_bind (L3.at ?_)))))
  show wpAny _ _ (holding [Value.builtin "object.__class__"] (call (.builtin "getset_descriptor.__get__") [.builtin "object.__class__", .ref x, .ref D]) >>= ret) _ _ _
  refine wpAny_bind (wpAny_holding (wpAny_call (class_get (s := ⟨hp, g, d, t + 1, os⟩) (ox := ox) (od := odx) X I T.hm ?_)))
  refine wpAny_pure ?_
  show wpAny _ _ (handedOut (.ref D)) _ _ _
  rw [handedOut_of (v := .ref D) rfl]
  first
    | exact wpAny_pure (wpAny_pure h)
    | exact wpAny_pure h
    | exact wpAny_pure (wpAny_bind (wpAny_pure (wpAny_pure h)))
theorem kitx_excD (T : L2.ExcC K D) : KitX K (.ref x) (.ref D) (fun h => ∃ ox odx, InstAt h x ox D odx) where
  ty := fun _ _ _ ⟨_, _, I⟩ => I.type
  it := fun _ _ X _ => by
    obtain ⟨cdD, hcD, _⟩ := any_some T.hd
    unfold clsIn at hcD
    split at hcD
    · rename_i c' d' cd' sl' ho
      intro A' Q' E' s' k q
      unfold isType loadHead
      exact wpAny_bind (wpAny_loadPart (k _ _ (X _ _ ho)) (wpAny_pure q))
    · cases hcD
  ne := fun h tp dd its n sl X htp => by
    obtain ⟨cdD, hcD, _⟩ := any_some T.hd
    refine Bool.eq_false_iff.mpr fun q => ?_
    have e : D = tp := Value.ref.inj (beq_iff_eq.mp q)
    subst e
    unfold clsIn at hcD
    split at hcD
    · rename_i c' d' cd' sl' ho
      have z := (X _ _ ho).symm.trans htp
      cases z
    · cases hcD
  ca := fun X ⟨ox, odx, I⟩ k => kin_classD T X I k
end
end PySem.W
namespace HM
open PySem PySem.Spec PyProof.Rows L2 XN

section
variable {X : Cx} {pins : List (Addr × Obj)} {σ : L2.St} {H : Hp} {s : Shared} {a C d : Addr} {fs : List (Str × V)}
/-- the exception at a stands as an instance of C, its dict as told -/
def Stands (K : PySem.W.Frag) (h : Heap) (a C : Addr) (fs : List (Str × V)) : Prop := ∃ ox od, PySem.W.InstAt h a ox C (some od) ∧ ∃ mA : Str → Option Value, (∀ n, PySem.W.lookIn n od = some (mA n)) ∧ ∀ f, RelO (fs.lookup f) (mA f)
theorem stands_tracked (I : Inv X pins σ H s) (h1 : H a = some (exo a C (some d))) (h2 : H d = some (exd d fs)) : Stands X.K s.heap a C fs := by
  obtain ⟨t1, ho⟩ := exo_at I.hok h1
  obtain ⟨mA, hn, r⟩ := exd_at I.hok h2
  obtain ⟨od, hod, hl⟩ := lookIn_ns hn
  exact ⟨_, od, ⟨ho, rfl, rfl, hod⟩, mA, hl, r⟩
theorem stands_caught {oe : Obj} (I : Inv X pins σ H s) (hp : (a, oe) ∈ X.pn) (hz : Zc (.ref C) (some d) oe) (hf : ∃ vs, oe.data = .fields vs) (h2 : H d = some (.xd fs)) : Stands X.K s.heap a C fs := by
  obtain ⟨ha, _⟩ := I.pin (a, oe) (List.mem_append_left _ hp)
  obtain ⟨vs, hd⟩ := hf
  have hx : ObjOk X.prog X.w H s.heap d (.xd fs) := I.hok d _ h2
  obtain ⟨mA, hns, hr⟩ := hx
  obtain ⟨od, ho, hl⟩ := lookIn_ns hns
  exact ⟨oe, od, ⟨ha, hz.1, by unfold PySem.W.notCls; rw [hd] <;> rfl, by rw [hz.2]; exact ho⟩, mA, hl, hr⟩
end
/-- the data d means, in X, an exception of the class C with the fields ks l -/
def ExcV (X : Cx) (d : Dt) (C : Addr) (ks : List Str) (l : List Dt) : Prop := ∀ (pins : List (Addr × Obj)) (σ : L2.St) (F H : Hp) (s : Shared) (v : V), Inv X pins σ H s → Sub F H → Rep X.K F d v →
  ∃ a ws, v = .ref a ∧ ks.length = ws.length ∧ Reps X.K F l ws ∧ Stands X.K s.heap a C (ks.zip ws)
theorem excV_exc {X : Cx} {C : Addr} {ks : List Str} {l : List Dt} : ExcV X (.exc C ks l) C ks l := fun pins σ F H s v I sb r => by
  obtain ⟨a, d, ws, rfl, h1, h2, h3, h4⟩ := r
  exact ⟨a, ws, rfl, h3, h4, stands_tracked I (sb _ _ h1) (sb _ _ h2)⟩
theorem excV_cau {X : Cx} {a dd C : Addr} {oe : Obj} {ks : List Str} {l : List Dt} (hp : (a, oe) ∈ X.pn) (hz : Zc (.ref C) (some dd) oe) (hf : ∃ vs, oe.data = .fields vs) : ExcV X (.cau a dd C ks l) C ks l := fun pins σ F H s v I sb r => by
  obtain ⟨rfl, ws, h1, h2, h3⟩ := r
  exact ⟨a, ws, rfl, h2, h3, stands_caught I hp hz hf (sb _ _ h1)⟩

section
variable {X : Cx} {e : Expr} {G : List (Option Dt)} {M M1 : Mst} {d dl : Dt} {C : Addr} {ks : List Str} {l : List Dt} {n x : Str} {pos p1 p2 : Pos} {b : Bool}
/-- e.n -/
theorem ex_fld (i : Nat) (T : XfC X.K C) (hno : PySem.W.findIn X.K (.ref C) n = some none) (hV : ExcV X d C ks l) (he : EX X e G M d M1) (hi : ks[i]? = some n) (hnd : ks.Nodup) (hl : l[i]? = some dl) (hb : attributeBase e n X.env (eval e X.env) = eval e X.env := by rfl) :
    EX X (.Attribute e n pos) G M dl M1 := ⟨he.1, fun σ F H Q r s q => by
  intro pins st I
  refine attr_of hb (thn (he.2 σ F H (fun v H1 => ∃ F1, Gr (dom M) F H F1 H1 ∧ Sta X.K F1 M1 H1 ∧ Rep X.K F1 d v ∧ ∀ v F' H', Gr (dom M) F H F' H' → Sta X.K F' M1 H' → Rep X.K F' dl v → Q v H') r s (fun v F1 H1 g1 s1 r1 => ⟨F1, g1, s1, r1, q⟩) pins st I) fun u s1 hh => ?_)
  obtain ⟨v, H1, I1, rv, F1, g1, s2, r1, q⟩ := hh
  obtain ⟨a, ws, rfl, h3, h4, ox, od, J, mA, hl2, hr⟩ := hV pins σ F1 H1 s1 v I1 s2.sub r1
  obtain rfl : u = Value.ref a := rv
  obtain ⟨wv, hw1, hw2⟩ := h4.get hl
  have hz : (ks.zip ws).lookup n = some wv := by
    have key : ∀ {ks : List Str} {ws : List L2.V} {i : Nat}, ks.Nodup → ks[i]? = some n → ws[i]? = some wv → (ks.zip ws).lookup n = some wv := by
      intro ks
      induction ks with
      | nil => intro ws i _ h; simp at h
      | cons k ks ih =>
        intro ws i hn h1 h2
        cases ws with
        | nil => simp at h2
        | cons w0 ws =>
          rw [List.zip_cons_cons, List.lookup_cons]
          cases i with
          | zero =>
            have e1 : k = n := by simpa using h1
            have e2 : w0 = wv := by simpa using h2
            subst e1 e2
            simp
          | succ i =>
            have hn := List.nodup_cons.mp hn
            have h1 : ks[i]? = some n := by simpa using h1
            have ne : (n == k) = false := by
              have : n ≠ k := fun z => hn.1 (z ▸ List.mem_of_getElem? h1)
              simpa using this
            rw [ne]
            exact ih hn.2 h1 (by simpa using h2)
    exact key hnd hi hw1
  obtain ⟨u, hu, ru⟩ := RelO.some_of (v := wv) (o := mA n) (by rw [← hz]; exact hr n)
  exact HandSPX.exc_get I1.kIn J T.ga T.gg T.exC (PySem.W.findObj_own T.hdC hno rfl (by rw [hl2, hu])) (handed_of ru) ⟨wv, H1, I1.tok _, ru, q wv F1 H1 g1 s2 hw2⟩⟩
/-- isinstance(e, x), x a class -/
theorem ex_isx {c : V} {cv : Value} {p3 : Pos} (T : ExcC X.K C) (hV : ExcV X d C ks l) (he : EX X e G M d M1) (hc : EX X (.Name x p2) G M1 (.raw c) M1) (hcv : ClsV c cv) (hk : PySem.W.kitOne X.K (.ref C) cv = some b) (hi : X.mg "isinstance" = none) (hgi : Gl X "isinstance" := by rfl)
    (hs : starEach [e, .Name x p2] X.env = (false, eval e X.env) :: starEach [.Name x p2] X.env := by rfl) (hs2 : starEach [.Name x p2] X.env = (false, eval (.Name x p2) X.env) :: starEach [] X.env := by rfl) (hpl : (backTo pos (starEach [.Name x p2] X.env)).any (·.1) = false := by rfl) :
    EX X (.Call (.Name "isinstance" p1) [e, .Name x p2] [] pos) G M (.bl b) M1 := by
  have ha : AX X [e, .Name x p2] G M [d, .raw c] M1 := ax_cons he (ax_cons hc ax_nil hs2) hs
  have hcall : CallR X (.builtin "isinstance") (fun xs H Q => ∃ F, Sub F H ∧ Reps X.K F [d, .raw c] xs ∧ Q (.bl b) H) := by
    intro pins s σ' H xs us Q I r h
    obtain ⟨F, sb, ⟨v, r1, rfl, rd, v2, r3, rfl, r4, r5⟩, q⟩ := h
    have r4 : v2 = c := r4
    have r5 : r3 = [] := r5
    subst r4 r5
    obtain ⟨u1, u2, rfl, ru1, ru2⟩ := vals2 r
    obtain ⟨a, ws, rfl, _, _, ox, od, J, _⟩ := hV pins σ' F H s v I sb rd
    obtain rfl : u1 = Value.ref a := ru1
    have e2 := hcv.eq ru2
    subst e2
    exact PySem.W.kia_one (PySem.W.kitx_excD T) I.kIn ⟨ox, _, J⟩ hk (fun z => nomatch z) fun tk => ⟨.bl b, H, I.tok tk, rfl, q⟩
  exact ⟨ha.1, fun σ F H Q r s q => w_e (pe_callB hcall hgi hi boot_isinstance pa_w (by decide) (by decide) hs hpl) (ha.2 σ F H _ r s fun vs F1 H1 g1 s1 r1 => ⟨F1, s1.sub, r1, q _ F1 H1 g1 s1 rfl⟩)⟩
end
end HM

set_option Elab.async false
set_option linter.all false
set_option maxRecDepth 100000
set_option maxHeartbeats 4000000
/-! E7: try with several clauses 'except (A, B) as e'. -/
namespace PySem.W
open PySem PySem.Spec PySem.Calls PyProof.Rows
theorem exm_tup5 {M : Model} {K : Frag} {c1 c2 c3 c4 c5 cls : Value} {tp e : Addr} {b : Bool} {h : Heap} (X : K.In h) (LT : Looks M h (typeOf (.ref e)) cls) (hp : h.get? tp = some { cls := .type "tuple", data := .seq [c1, c2, c3, c4, c5].toArray }) (hx : exmAny K cls [c1, c2, c3, c4, c5] = some b) :
    Looks M h (excMatches (.ref e) (.ref tp)) b := by
  intro A Q E s k₀ q
  obtain ⟨hh, g, d, tk, os⟩ := s
  have k : ∀ b o, h.get? b = some o → hh.get? b = some o := k₀
  have LT0 : Looks M h (isInstance (.ref tp) (.type "tuple")) true := ((Looks.ld hp).andThen .now).andThen (Looks.of_pure isSubtype_tuple_tuple)
  obtain ⟨b1, d1, x1, y1, z1⟩ := exmAny_cons hx
  obtain ⟨e1, S1⟩ := exm_cls (M := M) X x1
  have e1 := e1.keeps k
  have S1 := S1.keeps k
  obtain ⟨b2, d2, x2, y2, z2⟩ := exmAny_cons y1
  obtain ⟨e2, S2⟩ := exm_cls (M := M) X x2
  have e2 := e2.keeps k
  have S2 := S2.keeps k
  obtain ⟨b3, d3, x3, y3, z3⟩ := exmAny_cons y2
  obtain ⟨e3, S3⟩ := exm_cls (M := M) X x3
  have e3 := e3.keeps k
  have S3 := S3.keeps k
  obtain ⟨b4, d4, x4, y4, z4⟩ := exmAny_cons y3
  obtain ⟨e4, S4⟩ := exm_cls (M := M) X x4
  have e4 := e4.keeps k
  have S4 := S4.keeps k
  obtain ⟨b5, d5, x5, y5, z5⟩ := exmAny_cons y4
  obtain ⟨e5, S5⟩ := exm_cls (M := M) X x5
  have e5 := e5.keeps k
  have S5 := S5.keeps k
  have w5 : some false = some d5 := y5
  cases w5
  have LT := LT.keeps k
  have LT0 := LT0.keeps k
  have hp' := k _ _ hp
  subst z1 z2 z3 z4 z5
  unfold excMatches
  refine wpAny_bind (LT0.at ?_)
  dsimp only
  rw [if_pos rfl]
  first
    | refine wpAny_bind (wpAny_seqItems hp' rfl ?_)
    | refine wpAny_bind (wpAny_bind (wpAny_seqItems hp' rfl (wpAny_pure ?_)))
  dsimp only [Option.getD_some, Option.getD]
  cases b1 <;> cases b2 <;> cases b3 <;> cases b4 <;> cases b5 <;> ((repeat (first | simp only [List.forIn_cons, List.forIn_nil, Bool.not_true, Bool.false_eq_true, if_false, if_true] | lk)); exact q)
end PySem.W
namespace L2N
open PySem PySem.Spec PyProof.Rows L2
/-- what stays when only new objects are laid -/
theorem flying_keeps {base h h' : Heap} {l : List Env} {e : Addr} {Z : Obj → Prop} (x : HandSPX.FlyingZ base l e Z h) (k : ∀ b o, h.get? b = some o → h'.get? b = some o) : HandSPX.FlyingZ base l e Z h' := by
  obtain ⟨h1, h2, h3, oe, vs, T, oT, ts, a1, a2, a3, a4, a5, a6, a7, a8, a9⟩ := x
  exact ⟨fun b o e => k b o (h1 b o e), h2, h3.of_keeps fun b o e _ => ⟨o, k b o e, rfl⟩, oe, vs, T, oT, ts, k _ _ a1, a2, a3, a4, a5, a6, k _ _ a7, a8, a9⟩
/-- the test of a clause -/
def TestX (X : Cx) (te : Expr) (cs : List Value) : Prop := ∀ (a : Addr) (pn pins : List (Addr × Obj)) (σ : L2.St) (H : Hp) (s : Shared) (cls : Value) (b : Bool) (E : Value → Shared → Prop) (Q : Bool → Shared → Prop), Inv (X.suite a pn) pins σ H s →
  PySem.W.Looks (model X.prog X.w) s.heap (typeOf (.ref a)) cls → PySem.W.exmAny X.K cls cs = some b → (∀ h' t', (∀ q o, s.heap.get? q = some o → h'.get? q = some o) → Q b { s with heap := h', toks := t' }) →
  wpAny (model X.prog X.w) (X.A.mark (some (.ref a))) (eval te X.env) (fun c s₁ => wpAny (model X.prog X.w) (X.A.mark (some (.ref a))) (excMatches (.ref a) c) Q E s₁) E s
section
variable {X : Cx} {x1 x2 x3 x4 x5 : Str} {c1 c2 c3 c4 c5 : Value} {p1 p2 p3 p4 p5 tpos : Pos} {kk : ExprContext}
theorem nm_test {a : Addr} {pn pins : List (Addr × Obj)} {σ : L2.St} {H : Hp} {s : Shared} {E : Value → Shared → Prop} {x : Str} {c : Value} {np : Pos} {Q : Value → Shared → Prop} (hc : Names X x c) (S : Inv (X.suite a pn) pins σ H s) (q : Q c s) : wpAny (model X.prog X.w) (X.A.mark (some (.ref a))) (eval (.Name x np) X.env) Q E s := by
  obtain ⟨hg, hdbg, hm | ⟨hm, hv, hnn⟩⟩ := hc
  · exact ld_glob (X := X.suite a pn) S hg hm q hdbg
  · exact ld_blt (X := X.suite a pn) S hg hm hv q hnn hdbg
theorem test1 (n1 : Names X x1 c1) : TestX X (.Name x1 p1) [c1] := fun a pn pins σ H s cls b E Q S LT he q => by
  obtain ⟨b1, d1, h1, h2, h3⟩ := PySem.W.exmAny_cons he
  have h2 : some false = some d1 := h2
  cases h2
  rw [Bool.or_false] at h3
  subst h3
  exact nm_test n1 S ((PySem.W.exm_one S.kIn LT h1).here (q s.heap s.toks fun _ _ z => z))
theorem test2 (n1 : Names X x1 c1) (n2 : Names X x2 c2) {k} : TestX X (.Tuple [.Name x1 p1, .Name x2 p2] k tpos) [c1, c2] := fun a pn pins σ H s cls b E Q S LT he q => by
  refine wpAny_Tuple ?_
  refine wpAny_items_cons (nm_test n1 S ?_)
  refine wpAny_items_cons (nm_test n2 S ?_)
  refine wpAny_items_nil ⟨by size_fits, ?_⟩
  have kp : ∀ q o, s.heap.get? q = some o → (s.heap.push { cls := .type "tuple", data := .seq [c1, c2].toArray }).get? q = some o := fun _ _ z => Heap.get?_push_of_some _ z
  exact (PySem.W.exm_tup2 (S.kIn.keeps kp) (LT.keeps kp) (Heap.get?_push_size s.heap rfl) he).here (q _ _ kp)
theorem test5 (n1 : Names X x1 c1) (n2 : Names X x2 c2) (n3 : Names X x3 c3) (n4 : Names X x4 c4) (n5 : Names X x5 c5) {k} : TestX X (.Tuple [.Name x1 p1, .Name x2 p2, .Name x3 p3, .Name x4 p4, .Name x5 p5] k tpos) [c1, c2, c3, c4, c5] := fun a pn pins σ H s cls b E Q S LT he q => by
  refine wpAny_Tuple ?_
  refine wpAny_items_cons (nm_test n1 S ?_)
  refine wpAny_items_cons (nm_test n2 S ?_)
  refine wpAny_items_cons (nm_test n3 S ?_)
  refine wpAny_items_cons (nm_test n4 S ?_)
  refine wpAny_items_cons (nm_test n5 S ?_)
  refine wpAny_items_nil ⟨by size_fits, ?_⟩
  have kp : ∀ q o, s.heap.get? q = some o → (s.heap.push { cls := .type "tuple", data := .seq [c1, c2, c3, c4, c5].toArray }).get? q = some o := fun _ _ z => Heap.get?_push_of_some _ z
  exact (PySem.W.exm_tup5 (S.kIn.keeps kp) (LT.keeps kp) (Heap.get?_push_size s.heap rfl) he).here (q _ _ kp)
end
end L2N

set_option Elab.async false
set_option linter.all false
set_option maxRecDepth 100000
set_option maxHeartbeats 4000000
/-! E8: try, by data. -/
namespace L2N
open PySem PySem.Spec PyProof.Rows L2
abbrev Cl := List Value × (Addr → Value → Option Addr → TS)
/-- what the clauses wish of an exception of the body: slot i is the name behind 'as' -/
def wCl (K : PySem.W.Frag) (i : Nat) (Wout : WX) (D : Ends) : List Cl → WX
  | [] => Wout
  | (cs, ts) :: l => fun cls d σ H => ∃ b, PySem.W.exmAny K cls cs = some b ∧ (b = true → ∀ a, H a = none → ts a cls d { nx := fun σ' H' => D.nx (σ'.set i none) H', rt := D.rt, bk := fun σ' H' => D.bk (σ'.set i none) H', ct := fun σ' H' => D.ct (σ'.set i none) H' } (σ.set i (some (.ref a))) H) ∧
      (b = false → wCl K i Wout D l cls d σ H)
inductive HdsX (X : Cx) (n : Str) : List ExceptHandler → List Cl → Prop
  | nil : HdsX X n [] []
  | cons {te : Expr} {cs : List Value} {ts : Addr → Value → Option Addr → TS} {b₀ : Stmt} {suite : List Stmt} {pos' : Pos} {hds : List ExceptHandler} {l : List Cl} (hc : TestX X te cs)
      (hsu : ∀ (a : Addr) (oe : Obj) (cls : Value) (d : Option Addr) (pn : List (Addr × Obj)), Zn cls d oe → (∃ vs, oe.data = .fields vs) → PSs (X.suite a ((a, oe) :: pn)) (b₀ :: suite) (ts a cls d)) (r : HdsX X n hds l) :
      HdsX X n (.ExceptHandler (some te) (some n) (b₀ :: suite) pos' :: hds) ((cs, ts) :: l)
section
variable {X : Cx} {n : Str} {i : Nat} {body : List Stmt} {h₀ : ExceptHandler} {hds : List ExceptHandler} {l : List Cl} {pos : Pos} {tb : WX → TS} {Wout : WX}
theorem ps_try_cl (hs : X.stack = X.env :: X.outer) (hf : X.env.frame = some X.env.locals) (hN : X.N.Nodup) (hi : X.N[i]? = some n) (hln : X.env.kindOf n = some .local) (tk : Takes X Wout)
    (hb : ∀ (W : WX) (pn : List (Addr × Obj)) (xe : Value → Shared → Prop), Takes (X.tr pn xe) W → PassesOwn (model X.prog X.w) X.A X.env xe → PSs (X.tr pn xe) body (tb W))
    (hh : HdsX X n (h₀ :: hds) l) : PS X (.Try body (h₀ :: hds) [] [] pos) (fun D σ H => tb (wCl X.K i Wout D l) D σ H) := by
  refine ⟨fun pins s σ H D I h => ?_⟩
  have ok := I.ok
  have hfr : X.A.frames = some (X.env :: X.outer) := by rw [ok.frames, hs]
  have hloc : Loc X.env.scope n := .inl hln
  refine wpAny_Try_except ?_
  refine wpAny_mono ((hb (wCl X.K i Wout D l) (X.pn ++ pins) (fun e s₁ => wpAny (model X.prog X.w) X.A (noteFrame e X.env) (fun _ s₂ => wpAny (model X.prog X.w) X.A (setFlight e none) (fun _ s₃ =>
    wpAny (model X.prog X.w) X.A (handleBy e X.env (h₀ :: hds)) (SP X pins D) X.xe s₃) X.xe s₂) X.xe s₁) (fun u s' xx => ?_) PassesOwn.looking).run [] s σ H D (I.toTry _) h) (fun f s1 hsp => ?_) (fun e s1 he => he)
  · obtain ⟨a, B, sI, pins', σ', H', cls, d, rfl, J', nb, up, sky, na, os, ag, w⟩ := xx
    have J : Inv X pins σ' H' sI := J'.ofTry ok
    have sky' : Sky B (X.env :: X.outer) a (Zn cls d) X.env.locals s'.heap := by rw [← hs]; exact sky
    show wpAny (model X.prog X.w) X.A (noteFrame (.ref a) X.env) _ _ _
    refine Sky.land Zn.steady hfr hf sky' fun h3 fl3 up3 => ?_
    have go : ∀ {hds' : List ExceptHandler} {l' : List Cl}, HdsX X n hds' l' → ∀ (h4 : Heap) (t4 : Nat), HandSPX.FlyingZ B (X.env :: X.outer) a (Zn cls d) h4 → sI.heap.UpToSlots h4 → wCl X.K i Wout D l' cls d σ' H' →
        wpAny (model X.prog X.w) X.A (handleBy (.ref a) X.env hds') (SP X pins D) X.xe { s' with heap := h4, toks := t4 } := by
      intro hds' l' hk
      induction hk with
      | nil =>
        intro h4 t4 fl4 up4 w
        refine wpAny_handleBy_nil ?_
        obtain ⟨k1, k2, k3, oe, vs, T, oT, ts', he, hz, hd, h1, hr⟩ := id fl4
        unfold PySem.passOn
        refine wpAny_bind (wpAny_field he hd h1 ?_)
        rw [if_neg (show ¬ ((Value.ref T == Value.none) = true) from by simp)]
        have fin : wpAny (model X.prog X.w) X.A (setFlight (.ref a) X.env.frame) (fun _ s4 => wpAny (model X.prog X.w) X.A (throw (.ref a) : Sem Flow) (SP X pins D) X.xe s4) X.xe { s' with heap := h4, toks := t4 } := by
          rw [hf]
          refine HandSPX.setFlight_upZ fl4 fun h5 hh5 up5 => wpAny_throw (tk _ _ ?_)
          exact ⟨a, B, sI, pins, σ', H', cls, d, rfl, J, nb, up4.trans up5, .inr (.inr (by rw [hs]; exact hh5)), na, os, ag, w⟩
        first
          | exact wpAny_bind (wpAny_pure (wpAny_bind fin))
          | exact wpAny_bind fin
      | @cons te cs ts b₀ suite pos' hds2 l2 hc hsu r ih =>
        intro h4 t4 fl4 up4 w
        obtain ⟨b, hb1, hyes, hno⟩ := w
        have notFr : ∀ {h : Heap} {o : Obj} {vs : Array Value}, h.FunFrames B (X.env :: X.outer) → h.get? a = some o → o.data = .fields vs → a ∉ frs (X.env :: X.outer) := fun {h o vs} ff e dd hm => by
          obtain ⟨_, o', e', hnf⟩ := ff.mem hm
          rw [e] at e'; cases e'
          exact hnf _ dd
        obtain ⟨oe4, vs4, he4, hz4, hd4⟩ := fl4.there
        have nfr := notFr fl4.2.2.1 he4 hd4
        have nL : a ≠ X.env.locals := fun z => nfr (List.mem_filterMap.mpr ⟨X.env, List.mem_cons_self, by rw [hf, z]⟩)
        have nF : a ∉ X.fs := fun hm => by
          obtain ⟨e, he, q⟩ := List.mem_filterMap.mp hm
          exact nfr (List.mem_filterMap.mpr ⟨e, List.mem_cons_of_mem _ he, q⟩)
        have J4 : Inv X pins σ' H' { s' with heap := h4, toks := t4 } := Inv.landed (s' := { s' with heap := h4, toks := t4 }) J nb fl4.1 up4 os ag
        have S4 := J4.suite he4 hd4 na nL nF
        refine wpAny_handleBy_cons (codeAny_handlers_test ?_) (by intro q; cases q)
        have LT : PySem.W.Looks (model X.prog X.w) h4 (typeOf (.ref a)) cls := fun A Q E s k q => wpAny_typeOf_ref (k _ _ he4) (by rw [hz4.1]; exact q)
        refine hc a _ [] σ' H' _ cls b _ _ S4 LT hb1 fun h5 t5 k5 => ?_
        have fl5 := flying_keeps fl4 k5
        have up5 : sI.heap.UpToSlots h5 := up4.trans (Heap.UpToSlots.of_keeps k5)
        cases b with
        | true =>
          refine codeAny_handlers_suite_as ?_
          refine HandSPX.lands_againZ (s := { s' with heap := h5, toks := t5 }) fl5 fun h6 fl6 up6 => ?_
          have J6 : Inv X pins σ' H' { s' with heap := h6, toks := t5 } := Inv.landed (s' := { s' with heap := h6, toks := t5 }) J nb fl6.1 (up5.trans up6) os ag
          obtain ⟨oe6, vs6, he6, hz6, hd6⟩ := fl6.there
          have S6 := J6.suite he6 hd6 na nL nF
          refine store_ok (X := X.suite a ((a, oe6) :: (X.pn ++ pins))) (v := .ref a) S6 hN hi hloc rfl (fun s5 S5 => ?_) (.inr hln)
          refine wpAny_mono ((hsu a oe6 cls d (X.pn ++ pins) hz6 ⟨_, hd6⟩).run [] s5 _ H' _ S5 (hyes rfl a na)) (fun f s6 hsp => ?_) (fun _ _ z => False.elim z)
          have end_ : ∀ {σ6 : St} {H6 : Hp} {Q : Shared → Prop}, Inv (X.suite a ((a, oe6) :: (X.pn ++ pins))) [] σ6 H6 s6 → (∀ s7, Inv X pins (σ6.set i none) H6 s7 → Q s7) →
              wpAny (model X.prog X.w) X.A (do bindName X.env n .none; unbindBehindTheSuite X.env n pos') (fun _ s7 => Q s7) X.xe s6 := fun {σ6 H6 Q} S6 hq => gone_ok (S6.unsuite ok) hN hi hln hq
          cases f with
          | next =>
            obtain ⟨σ6, H6, S6, q6⟩ := hsp
            exact end_ S6 fun s7 J7 => ⟨_, _, J7, q6⟩
          | brk =>
            obtain ⟨σ6, H6, S6, q6⟩ := hsp
            exact end_ S6 fun s7 J7 => ⟨_, _, J7, q6⟩
          | cont =>
            obtain ⟨σ6, H6, S6, q6⟩ := hsp
            exact end_ S6 fun s7 J7 => ⟨_, _, J7, q6⟩
          | ret u =>
            obtain ⟨v6, σ6, H6, S6, r6, q6⟩ := hsp
            exact end_ S6 fun s7 J7 => ⟨_, _, _, J7, r6, q6⟩
        | false => exact ih h5 t5 fl5 up5 (hno rfl)
    exact go hh h3 s'.toks fl3 (up.trans up3) w
  · cases f with
    | next =>
      obtain ⟨σ', H', J', q⟩ := hsp
      exact wpAny_execs_nil ⟨σ', H', J'.ofTry ok, q⟩
    | brk =>
      obtain ⟨σ', H', J', q⟩ := hsp
      exact ⟨σ', H', J'.ofTry ok, q⟩
    | cont =>
      obtain ⟨σ', H', J', q⟩ := hsp
      exact ⟨σ', H', J'.ofTry ok, q⟩
    | ret u =>
      obtain ⟨v, σ', H', J', r, q⟩ := hsp
      exact ⟨v, σ', H', J'.ofTry ok, r, q⟩
end
end L2N

set_option Elab.async false
set_option linter.all false
set_option maxRecDepth 100000
set_option maxHeartbeats 4000000
/-! E9: try, over data. -/
namespace HM
open PySem PySem.Spec PyProof.Rows L2 L2N
theorem RepS.clear {K : PySem.W.Frag} {F : Hp} {σ : L2.St} {G : List (Option Dt)} (r : RepS K F σ G) (i : Nat) : RepS K F (σ.set i none) (G.set i none) := by
  refine ⟨by simp [r.len], fun j d' e => ?_⟩
  by_cases hj : i = j
  · subst hj
    by_cases hl : i < G.length
    · rw [List.getElem?_set_self hl] at e
      cases e
    · rw [List.getElem?_eq_none (by simpa using hl)] at e
      cases e
  · rw [List.getElem?_set_ne hj] at e
    obtain ⟨v', h1, h2⟩ := r.get j d' e
    exact ⟨v', by rw [List.getElem?_set_ne hj]; exact h1, h2⟩
/-- the clauses' tests -/
inductive HT (X : Cx) (n : Str) : List ExceptHandler → List (List Value) → Prop
  | nil : HT X n [] []
  | cons {te : Expr} {cs : List Value} {b₀ : Stmt} {suite : List Stmt} {pos' : Pos} {hds : List ExceptHandler} {css : List (List Value)} (hc : TestX X te cs) (r : HT X n hds css) : HT X n (.ExceptHandler (some te) (some n) (b₀ :: suite) pos' :: hds) (cs :: css)
def clOf (X : Cx) : List ExceptHandler → List (List Value) → List Cl
  | .ExceptHandler _ _ body _ :: hds, cs :: css => (cs, fun a cls d D σ H => ∀ (oe : Obj) (pn : List (Addr × Obj)), Zn cls d oe → (∃ vs, oe.data = .fields vs) → wSs (X.suite a ((a, oe) :: pn)) body D σ H) :: clOf X hds css
  | _, _ => []
theorem HT.hds {X : Cx} {n : Str} : ∀ {hds : List ExceptHandler} {css : List (List Value)}, HT X n hds css → HdsX X n hds (clOf X hds css) := by
  intro hds css h
  induction h with
  | nil => exact .nil
  | cons hc r ih => exact .cons hc (fun a oe cls d pn hz hf => ⟨fun pins s σ H D I h => h oe pn hz hf pins s I⟩) ih
abbrev suT (T : Po) (i : Nat) : Po := { nx := fun G2 M2 => T.nx (G2.set i none) M2, rt := T.rt, er := fun _ => E00, bk := fun G2 M2 => T.bk (G2.set i none) M2, ct := fun G2 M2 => T.ct (G2.set i none) M2 }
/-- an exception of the body goes to the clauses -/
def ClD (X : Cx) (i : Nat) (T : Po) (G : List (Option Dt)) (M : Mst) (C : Addr) (ks : List Str) (fs : List Dt) : List ExceptHandler → List (List Value) → Prop
  | .ExceptHandler _ _ body _ :: hds, cs :: css => ∃ b, PySem.W.exmAny X.K (.ref C) cs = some b ∧
      (b = true → ∀ (a dd : Addr) (oe : Obj) (pn : List (Addr × Obj)), Zn (.ref C) (some dd) oe → (∃ vs, oe.data = .fields vs) → SS (X.suite a ((a, oe) :: pn)) body (G.set i (some (.cau a dd C ks fs))) M (suT T i)) ∧
      (b = false → ClD X i T G M C ks fs hds css)
  | _, _ => T.er G C ks fs M
section
variable {X : Cx} {n : Str} {i : Nat} {body : List Stmt} {h₀ : ExceptHandler} {hds : List ExceptHandler} {css : List (List Value)} {pos : Pos} {G : List (Option Dt)} {M : Mst} {T : Po}
theorem s1_try (i : Nat) (Zb : List (Option Dt) → Er) (hN : X.N.Nodup) (hT : HT X n (h₀ :: hds) css) (hb : ∀ (pn : List (Addr × Obj)) (xe : Value → Shared → Prop), PassesOwn (model X.prog X.w) X.A X.env xe → SS (X.tr pn xe) body G M { T with er := Zb })
    (hcl : ∀ G' C ks fs M', Zb G' C ks fs M' → ClD X i T G' M' C ks fs (h₀ :: hds) css) (hi : X.N[i]? = some n := by rfl) (hln : X.env.kindOf n = some .local := by rfl) (hs : X.stack = X.env :: X.outer := by rfl) (hf : X.env.frame = some X.env.locals := by rfl) :
    S1 X (.Try body (h₀ :: hds) [] [] pos) G M T := fun B σ H D hD ⟨Wout, tk, hW⟩ hN0 => by
  refine w_s (ps_try_cl (tb := fun W D σ H => ∀ (pn : List (Addr × Obj)) (xe : Value → Shared → Prop), L2N.Takes (X.tr pn xe) W → PassesOwn (model X.prog X.w) X.A X.env xe → wSs (X.tr pn xe) body D σ H) hs hf hN hi hln tk
    (fun W pn xe tk po => ⟨fun pins s σ H D I h => h pn xe tk po pins s I⟩) hT.hds) ?_
  intro pn xe tk2 po
  refine hb pn xe po B σ H D ⟨hD.nx, hD.rt, hD.bk, hD.ct⟩ ⟨_, tk2, fun G' C ks fs M' dd ws σ' F' H' hz hm g s r h1 h2 h3 => ?_⟩ hN0
  have key : ∀ {hds' : List ExceptHandler} {css' : List (List Value)}, HT X n hds' css' → ClD X i T G' M' C ks fs hds' css' → wCl X.K i Wout D (clOf X hds' css') (.ref C) (some dd) σ' H' := by
    intro hds' css' hh
    induction hh with
    | nil => exact fun z => hW G' C ks fs M' dd ws σ' F' H' z hm g s r h1 h2 h3
    | @cons te cs b₀ suite pos' hds2 css2 hc r' ih =>
      rintro ⟨b, e, hy, hn⟩
      refine ⟨b, e, fun hb a ha oe pn hz' hf' => ?_, fun hb => ih (hn hb)⟩
      refine hy hb a dd oe pn hz' hf' B _ H' _ ⟨fun G2 M2 σ2 H2 h ⟨F2, g2, s2, r2, m2⟩ => hD.nx _ M2 _ H2 h ⟨F2, g2, s2, r2.clear i, m2⟩, hD.rt, fun G2 M2 σ2 H2 h ⟨F2, g2, s2, r2, m2⟩ => hD.bk _ M2 _ H2 h ⟨F2, g2, s2, r2.clear i, m2⟩,
        fun G2 M2 σ2 H2 h ⟨F2, g2, s2, r2, m2⟩ => hD.ct _ M2 _ H2 h ⟨F2, g2, s2, r2.clear i, m2⟩⟩ ⟨fun _ _ _ _ => False, fun u s' ⟨_, _, _, _, _, _, _, _, _, _, _, _, _, _, _, _, w⟩ => w.elim, fun _ _ _ _ _ _ _ _ _ _ z => z.elim⟩
        ⟨F', g, s, r.set (d := .cau a dd C ks fs) ⟨rfl, ws, h1, h2, h3⟩ i, hm⟩
  exact key hT (hcl G' C ks fs M' hz)
end
end HM

set_option Elab.async false
set_option linter.all false
set_option maxRecDepth 100000
set_option maxHeartbeats 4000000
/-! LM1: objects told as they stand: tracked for a call, let go behind it. -/
namespace LM
open PySem PySem.Spec PyProof.Rows L2

/-- the very object at a -/
def EXO (a : Addr) (o : Obj) : HO := .ext fun h => h.get? a = some o
theorem exo_lst {a : Addr} {o : Obj} {xs : List V} : EXO a o ≠ .lst xs := fun z => by
  have z : HO.ext _ = HO.lst xs := z
  cases z
theorem exo_tup {a : Addr} {o : Obj} {xs : List V} : EXO a o ≠ .tup xs := fun z => by
  have z : HO.ext _ = HO.tup xs := z
  cases z
theorem exo_frz {a : Addr} {o ob : Obj} {u : HO} : EXO a o ≠ .frz ob u := fun z => by
  have z : HO.ext _ = HO.frz ob u := z
  cases z
theorem exo_tbl {a : Addr} {o : Obj} {ps : Array Value} : EXO a o ≠ .tbl ps := fun z => by
  have z : HO.ext _ = HO.tbl ps := z
  cases z
theorem exo_own {a x : Addr} {o : Obj} : EXO a o ≠ .own x := fun z => by
  have z : HO.ext _ = HO.own x := z
  cases z
theorem exo_dK {a : Addr} {o : Obj} {kvs : List (Key × V)} : EXO a o ≠ .dK kvs := fun z => by
  have z : HO.ext _ = HO.dK kvs := z
  cases z
theorem exo_ok {P : Program} {w : World} {H : Hp} {h : Heap} {a : Addr} {o : Obj} (e : h.get? a = some o) : ObjOk P w H h a (EXO a o) := ⟨e, ⟨o, e⟩, fun _ _ z k => k _ z⟩
theorem exo_at {P : Program} {w : World} {H : Hp} {h : Heap} {a : Addr} {o : Obj} (hok : HOk P w H h) (e : H a = some (EXO a o)) : h.get? a = some o := by
  have x : ObjOk P w H h a (.ext fun h => h.get? a = some o) := hok a _ e
  exact x.1

abbrev Xs := List (Addr × Obj)
def ups (H : Hp) (L : Xs) : Hp := fun b => match L.lookup b with
  | some o => some (EXO b o)
  | none => H b
def dels (H : Hp) (L : Xs) : Hp := fun b => match L.lookup b with
  | some _ => none
  | none => H b
def Off (b : Addr) (L : Xs) : Prop := L.lookup b = none
theorem ups_off {H : Hp} {L : Xs} {b : Addr} (h : Off b L) : ups H L b = H b := by
  unfold ups
  rw [h]
theorem dels_off {H : Hp} {L : Xs} {b : Addr} (h : Off b L) : dels H L b = H b := by
  unfold dels
  rw [h]
theorem ups_on {H : Hp} {L : Xs} {b : Addr} {o : Obj} (h : L.lookup b = some o) : ups H L b = some (EXO b o) := by
  unfold ups
  rw [h]
theorem dels_on {H : Hp} {L : Xs} {b : Addr} {o : Obj} (h : L.lookup b = some o) : dels H L b = none := by
  unfold dels
  rw [h]
theorem on_off (b : Addr) (L : Xs) : (∃ o, L.lookup b = some o) ∨ Off b L := by
  cases e : L.lookup b with
  | some o => exact .inl ⟨o, rfl⟩
  | none => exact .inr e
theorem mem_on {L : Xs} {p : Addr × Obj} (h : p ∈ L) : ∃ o, L.lookup p.1 = some o := by
  cases e : L.lookup p.1 with
  | some o => exact ⟨o, rfl⟩
  | none =>
    have := List.lookup_eq_none_iff.mp e p h
    simp at this
/-- the objects stand in h -/
def In (L : Xs) (h : Heap) : Prop := ∀ b o, L.lookup b = some o → h.get? b = some o
/-- they are not tracked in H -/
def Fre (L : Xs) (H : Hp) : Prop := ∀ b o, L.lookup b = some o → H b = none
/-- they are tracked -/
def Trk (L : Xs) (H : Hp) : Prop := ∀ b o, L.lookup b = some o → H b = some (EXO b o)
theorem trk_ups (H : Hp) (L : Xs) : Trk L (ups H L) := fun b o e => ups_on e
theorem fre_dels (H : Hp) (L : Xs) : Fre L (dels H L) := fun b o e => dels_on e
theorem off_of {L : Xs} {H : Hp} {b : Addr} {u : HO} (F : Fre L H) (e : H b = some u) : Off b L := by
  rcases on_off b L with ⟨o, h⟩ | h
  · rw [F b o h] at e
    cases e
  · exact h
theorem off_t {L : Xs} {H : Hp} {b : Addr} {u : HO} (T : Trk L H) (e : H b = some u) (n : ∀ o, u ≠ EXO b o) : Off b L := by
  rcases on_off b L with ⟨o, h⟩ | h
  · rw [T b o h] at e
    exact absurd (Option.some.inj e).symm (n o)
  · exact h
theorem off_n {L : Xs} {H : Hp} {b : Addr} (T : Trk L H) (e : H b = none) : Off b L := by
  rcases on_off b L with ⟨o, h⟩ | h
  · rw [T b o h] at e
    cases e
  · exact h
section
variable {P : Program} {w : World} {H H' : Hp} {h h' B : Heap} {L : Xs} {fs : List Addr}
theorem hok_ups (x : HOk P w H h) (i : In L h) (f : Fre L H) : HOk P w (ups H L) h := fun b u e => by
  rcases on_off b L with ⟨o, hb⟩ | hb
  · rw [ups_on hb] at e
    cases e
    exact exo_ok (i b o hb)
  · rw [ups_off hb] at e
    exact (x b u e).stay (fun c v _ q => q) (fun c q => by rw [ups_off (off_of f q)]; exact q) (fun c xs q => by rw [ups_off (off_of f q)]; exact q)
theorem hok_dels (x : HOk P w H h) (t : Trk L H) : HOk P w (dels H L) h := fun b u e => by
  rcases on_off b L with ⟨o, hb⟩ | hb
  · rw [dels_on hb] at e
    cases e
  · rw [dels_off hb] at e
    exact (x b u e).stay (fun c v _ q => q) (fun c q => by rw [dels_off (off_t t q fun o z => exo_own z.symm)]; exact q) (fun c xs q => by rw [dels_off (off_t t q fun o z => exo_tup z.symm)]; exact q)
/-- behind a call that was told of them: as if it had not been -/
theorem un_out (u : Un fs [] (ups H L) H' h h') (x : HOk P w H' h') (i : In L h) (f : Fre L H) (nf : ∀ b o, L.lookup b = some o → b ∉ fs) (t : Trk L H') : Un fs [] H (dels H' L) h h' where
  keep := fun b o e n hf hx => by
    rcases on_off b L with ⟨o', hb⟩ | hb
    · have e2 := i b o' hb
      rw [e] at e2
      cases e2
      exact exo_at x (t b o hb)
    · exact u.keep b o e (by rw [ups_off hb]; exact n) hf hx
  slot := fun b o e n hf hx => by
    rcases on_off b L with ⟨o', hb⟩ | hb
    · exact absurd hf (nf b o' hb)
    · exact u.slot b o e (by rw [ups_off hb]; exact n) hf hx
  free := fun b o e n hx => by
    rcases on_off b L with ⟨o', hb⟩ | hb
    · exact dels_on hb
    · rw [dels_off hb]
      exact u.free b o e (by rw [ups_off hb]; exact n) hx
  there := u.there
  tups := fun b xs e => by
    have hb := off_of f e
    rw [dels_off hb]
    exact u.tups b xs (by rw [ups_off hb]; exact e)
  frzs := fun b o v e => by
    have hb := off_of f e
    rw [dels_off hb]
    exact u.frzs b o v (by rw [ups_off hb]; exact e)
  tbls := fun b ps e => by
    have hb := off_of f e
    rw [dels_off hb]
    exact u.tbls b ps (by rw [ups_off hb]; exact e)
/-- behind a piece that wasn't told of them, where they were tracked -/
theorem un_in (u : Un fs [] (dels H L) H' h h') (t : Trk L H) (f : Fre L H') : Un fs [] H (ups H' L) h h' where
  keep := fun b o e n hf hx => u.keep b o e (by rw [dels_off (off_n t n)]; exact n) hf hx
  slot := fun b o e n hf hx => u.slot b o e (by rw [dels_off (off_n t n)]; exact n) hf hx
  free := fun b o e n hx => by
    have hb := off_n t n
    rw [ups_off hb]
    exact u.free b o e (by rw [dels_off hb]; exact n) hx
  there := u.there
  tups := fun b xs e => by
    have hb := off_t t e fun o z => exo_tup z.symm
    rw [ups_off hb]
    exact u.tups b xs (by rw [dels_off hb]; exact e)
  frzs := fun b o v e => by
    have hb := off_t t e fun o z => exo_frz z.symm
    rw [ups_off hb]
    exact u.frzs b o v (by rw [dels_off hb]; exact e)
  tbls := fun b ps e => by
    have hb := off_t t e fun o z => exo_tbl z.symm
    rw [ups_off hb]
    exact u.tbls b ps (by rw [dels_off hb]; exact e)
theorem ub_in (u : UB fs (dels H L) H' h B h') (t : Trk L H) (f : Fre L H') : UB fs H (ups H' L) h B h' where
  keep := fun b o e n hf => u.keep b o e (by rw [dels_off (off_n t n)]; exact n) hf
  slot := u.slot
  free := fun b o e n => by
    have hb := off_n t n
    rw [ups_off hb]
    exact u.free b o e (by rw [dels_off hb]; exact n)
  there := u.there
  tups := fun b xs e => by
    have hb := off_t t e fun o z => exo_tup z.symm
    rw [ups_off hb]
    exact u.tups b xs (by rw [dels_off hb]; exact e)
  frzs := fun b o v e => by
    have hb := off_t t e fun o z => exo_frz z.symm
    rw [ups_off hb]
    exact u.frzs b o v (by rw [dels_off hb]; exact e)
  tbls := fun b ps e => by
    have hb := off_t t e fun o z => exo_tbl z.symm
    rw [ups_off hb]
    exact u.tbls b ps (by rw [dels_off hb]; exact e)
end

/-! ### a call that is told of them -/
section
variable {X : Cx} {pins : List (Addr × Obj)} {σ : L2.St} {H : Hp} {s : Shared} {L : Xs} {k : Nat} {f : Addr} {sp : Sp} {Q : VK} {us : List Value} {vs : List V}
theorem run_told (F : FnR X.prog X.w X.K X.mg X.base (L2N.CX X.prog X.w) k f sp) (hr : Room k X.A) (I : Inv X pins σ H s) (i : In L s.heap) (fr : Fre L H) (nf : ∀ b o, L.lookup b = some o → b ∉ frs X.stack) (nb : ∀ b o, L.lookup b = some o → X.base.get? b = none) (r : Vals vs us)
    (h : sp vs (ups H L) (fun v H' => Trk L H' ∧ Q v (dels H' L)) E0) : wpAny (model X.prog X.w) X.A (call (.ref f) us) (EP X pins σ Q) X.xe s := by
  have e0 := I.env0
  have e1 : Env0 X.prog X.w X.K X.mg X.base X.A X.stack s (ups H L) := ⟨e0.frames, e0.mod, fun b o e => ⟨(e0.bs b o e).1, by
      rcases on_off b L with ⟨o', hb⟩ | hb
      · rw [nb b o' hb] at e
        cases e
      · rw [ups_off hb]
        exact (e0.bs b o e).2⟩, e0.bsz, e0.funs, fun b hb => by
      rcases on_off b L with ⟨o', hb'⟩ | hb'
      · exact absurd hb (nf b o' hb')
      · rw [ups_off hb']
        exact e0.frf b hb, hok_ups e0.hok i fr, e0.bare⟩
  refine wpAny_call (codeAny_mono (F X.A X.stack s (ups H L) us vs _ E0 hr e1 r h) fun r s' hq => ?_)
  cases r with
  | error e =>
    obtain ⟨_, _, _, _, _, _, _, _, _, _, _, _, z⟩ := (show L2N.CX X.prog X.w X.stack (ups H L) s E0 e s' from hq)
    exact z.elim
  | ok fl =>
    cases fl with
    | ret u =>
      obtain ⟨v, H', os, bare, un, hok, rv, t, q⟩ := (show CE X.stack X.prog X.w (ups H L) s _ u s' from hq)
      exact I.after ⟨v, dels H' L, os, bare, un_out un hok i fr nf t, hok_dels hok t, rv, q⟩
    | next => exact False.elim hq
    | brk => exact False.elim hq
    | cont => exact False.elim hq
end

/-! ### a lambda as a function -/
abbrev lEnv (q : Str) (scope : Scope) (L f : Addr) (c' : Addr) (cl : List (Str × Addr)) : Env := PySem.W.envX q scope L f (.ref c') cl
def lamC (P : Program) (w : World) (K : PySem.W.Frag) (mg : Str → Option Value) (base : Heap) (N : List Str) (q : Str) (scope : Scope) (f c' : Addr) (cl : List (Str × Addr)) (A : Around) (outer : List Env) (s : Shared) (H : Hp) (E : XK) : Cx where
  prog := P
  w := w
  K := K
  mg := mg
  base := base
  A := A.deeper (lEnv q scope s.heap.objs.size f c' cl)
  N := N
  s_0 := s
  H_0 := H
  env := lEnv q scope s.heap.objs.size f c' cl
  outer := outer
  stack := lEnv q scope s.heap.objs.size f c' cl :: outer
  ex := []
  fn := fun _ => false
  calm := true
  pn := []
  xe := fun e s' => wpAny (model P w) (A.deeper (lEnv q scope s.heap.objs.size f c' cl)) (leaving (lEnv q scope s.heap.objs.size f c' cl) e) (fun _ s'' => L2N.CX P w outer H s E e s'') (fun e' s'' => L2N.CX P w outer H s E e' s'') s'
/-- the lambda's scope: it captures the names fr -/
structure LS (scope : Scope) (fr : List Str) : Prop where
  kind : scope.kind = .function
  co : scope.isCoroutine = false
  gen : scope.isGenerator = false
  own : ∀ y ∈ scope.names, y.2 ≠ .local ∧ y.2 ≠ .cell
  free : ∀ y ∈ scope.names, y.2 = .free → y.1 ∈ fr
def lsB (scope : Scope) (fr : List Str) : Bool := decide (scope.kind = .function) && !scope.isCoroutine && !scope.isGenerator && scope.names.all fun y => !decide (y.2 = .local) && !decide (y.2 = .cell) && (!decide (y.2 = .free) || decide (y.1 ∈ fr))
theorem ls_by {scope : Scope} {fr : List Str} (h : lsB scope fr = true) : LS scope fr := by
  unfold lsB at h
  simp only [Bool.and_eq_true, Bool.or_eq_true, Bool.not_eq_true', decide_eq_true_eq, decide_eq_false_iff_not, List.all_eq_true] at h
  obtain ⟨⟨⟨h1, h2⟩, h3⟩, h4⟩ := h
  refine ⟨h1, h2, h3, fun y hy => (h4 y hy).1, fun y hy e => ?_⟩
  rcases (h4 y hy).2 with z | z
  · exact absurd e z
  · exact z
/-- the captured cells: cl tells where, Lc what stands there, vs what it means -/
structure CellsOk (cl : List (Str × Addr)) (Lc : Xs) (fr : List Str) (vs : List V) : Prop where
  len : vs.length = fr.length
  on : ∀ x c, cl.lookup x = some c → ∃ o v, Lc.lookup c = some o ∧ o.data = .cell v
  inj : ∀ x y c, cl.lookup x = some c → cl.lookup y = some c → x = y
  has : ∀ (i : Nat) x v, fr[i]? = some x → vs[i]? = some v → ∃ c o u, cl.lookup x = some c ∧ Lc.lookup c = some o ∧ o.data = .cell (some u) ∧ RelV v u
  frh : ∀ x ∈ fr, ∃ c, cl.lookup x = some c
section
variable {P : Program} {w : World} {K : PySem.W.Frag} {mg : Str → Option Value} {base : Heap} {fr : List Str} {q : Str} {scope : Scope} {f c' : Addr} {cl : List (Str × Addr)} {Lc : Xs} {vs : List V} {params : Arguments} {body : Expr} {pm ctv : Value} {k : Nat}
theorem lam_fnR (S : LS scope fr) (C : CellsOk cl Lc fr vs) (hbind : bindArgs (PySem.W.kla_fn "<lambda>" q params body scope cl pm (.ref c') ctv) ⟨[], []⟩ = pure []) :
    FnR P w K mg base (L2N.CX P w) (k + 1) f (fun us H Q E => us = [] ∧ H f = some (EXO f (PySem.W.kla_obj "<lambda>" q params body scope cl pm c' ctv)) ∧ H c' = some (LamX.CodeO c' q) ∧ Trk Lc H ∧
      ∀ (A : Around) (outer : List Env) (s s1 : Shared) (pins : List (Addr × Obj)), Room k (A.deeper (lEnv q scope s.heap.objs.size f c' cl)) → Inv (lamC P w K mg base fr q scope f c' cl A outer s (dels H Lc) fun cls d H' => Fre Lc H' → E cls d (ups H' Lc)) pins (vs.map some) (dels H Lc) s1 →
        wpAny (model P w) (A.deeper (lEnv q scope s.heap.objs.size f c' cl)) (eval body (lEnv q scope s.heap.objs.size f c' cl)) (EP (lamC P w K mg base fr q scope f c' cl A outer s (dels H Lc) fun cls d H' => Fre Lc H' → E cls d (ups H' Lc)) pins (vs.map some) fun v H' => Fre Lc H' → Q v (ups H' Lc))
          (lamC P w K mg base fr q scope f c' cl A outer s (dels H Lc) fun cls d H' => Fre Lc H' → E cls d (ups H' Lc)).xe s1) := by
  intro A outer s H us vs' Q E hr e0 rv ⟨evs, hf, hc, ht, hbody⟩
  subst evs
  cases rv
  have of1 := exo_at e0.hok hf
  have lim : s.heap.NoLimit := e0.mod.nolimit.keeps fun b o e => (e0.bs b o e).1
  obtain ⟨⟨oc, ws, t, hoc, hdc, hvc⟩, _, _⟩ := e0.hok c' _ hc
  refine PySem.W.kla_callFunE hr.depth of1 rfl S.co S.gen rfl ⟨c', oc, ws, t, rfl, hoc, hdc, hvc⟩ ?_
  rw [hbind]
  refine wpAny_pure (wpAny_newFunctionEnv (fun y hy => (S.own y hy).2) (fun y hy => absurd hy (by simp)) (fun h₁ hns hsb => ⟨lim.fresh _ hsb, ?_⟩) S.kind)
  show codeAny _ _ (.expr body (lEnv q scope s.heap.objs.size f c' cl)) _ _
  have kp : ∀ b o, s.heap.get? b = some o → h₁.get? b = some o := fun b o e => hsb.extBut b o (Nat.ne_of_lt (Heap.lt_size e)) (Heap.get?_push_of_some _ e)
  have hinC : ∀ b o, Lc.lookup b = some o → s.heap.get? b = some o := fun b o e => exo_at e0.hok (ht b o e)
  have hok0 : HOk P w (dels H Lc) s.heap := hok_dels e0.hok ht
  have dn : ∀ {b : Addr}, H b = none → dels H Lc b = none := fun {b} n => by rw [dels_off (off_n ht n)]; exact n
  have noA : ∀ b : Addr, b ∉ (lamC P w K mg base fr q scope f c' cl A outer s (dels H Lc) fun cls d H' => Fre Lc H' → E cls d (ups H' Lc)).ex := fun b z => absurd (show b ∈ ([] : List Addr) from z) (by simp)
  have J : Inv (lamC P w K mg base fr q scope f c' cl A outer s (dels H Lc) fun cls d H' => Fre Lc H' → E cls d (ups H' Lc)) [] (vs.map some) (dels H Lc) { s with heap := h₁, toks := s.toks + ([] : List (Str × Value)).length } := by
    refine ⟨⟨e0.mod, S.kind, rfl, rfl, Nat.le_refl _, fun y z c e1 e2 => C.inj y z c e1 e2, fun y hy => ?_, fun y c z _ => ?_, fun _ => hr.hd, Around.frames_deeper e0.frames, .inr ⟨rfl, rfl⟩, fun b z => absurd z (noA b), fun b o e => ⟨(e0.bs b o e).1, dn (e0.bs b o e).2⟩, e0.bsz, fun b _ _ => noA b,
        fun b z => absurd z (noA b), e0.funs, fun b hb => dn (e0.frf b hb)⟩,
      rfl, e0.bare, Un.kept kp, ⟨_, hns, fun i y v e1 e2 e3 => ?_⟩, fun y c e => ?_, hok0.fresh (Nat.le_refl _), fun y c e => ?_, fun p hp => absurd (show p ∈ ([] : List (Addr × Obj)) ++ [] from hp) (by simp), hok0.kept kp, by
        show (vs.map some).length = fr.length
        rw [List.length_map]
        exact C.len⟩
    · have hy : scope.names.lookup y = some .cell ∨ scope.names.lookup y = some .free := hy
      rcases hy with hy | hy
      · exact absurd rfl (S.own _ (PySem.mem_of_lookup hy)).2
      · exact C.frh y (S.free _ (PySem.mem_of_lookup hy) rfl)
    · have z : false = true := z
      cases z
    · have e3 : Vis scope y := e3
      rcases e3 with k | k | k
      · exact absurd rfl (S.own _ (PySem.mem_of_lookup k)).1
      · exact absurd rfl (S.own _ (PySem.mem_of_lookup k)).2
      · have e1 : fr[i]? = some y := e1
        have e2 : vs[i]? = some v := by
          rw [List.getElem?_map] at e2
          cases ev : vs[i]? with
          | none => rw [ev] at e2; cases e2
          | some v' => rw [ev] at e2; cases e2; rfl
        obtain ⟨c, o, u, h1, h2, h3, h4⟩ := C.has i y v e1 e2
        exact ⟨u, h4, .inr ⟨.inr k, c, h1, o, kp _ _ (hinC c o h2), h3⟩⟩
    · obtain ⟨o, v, h1, h2⟩ := C.on y c e
      exact ⟨v, o, kp _ _ (hinC c o h1), h2⟩
    · obtain ⟨o, v, h1, h2⟩ := C.on y c e
      exact dels_on h1
  refine PySem.W.kla_codeExpr (wpAny_mono (hbody A outer s _ [] (hr.deeper _) J) (fun v s' hq => ?_) fun e s' hq => ?_)
  · obtain ⟨w', H', J', rv, qq⟩ := hq
    have fr' : Fre Lc H' := fun b o e => J'.base.free b o (hinC b o e) (dels_on e) (by exact noA b)
    refine ⟨w', ups H' Lc, J'.os, J'.bare, un_in J'.base ht fr', hok_ups J'.hok (fun b o e => J'.base.keep b o (hinC b o e) (dels_on e) (fun hb => ?_) (noA b)) fr', rv, qq fr'⟩
    have z := e0.frf b hb
    rw [ht b o e] at z
    cases z
  · have conv : ∀ e s'', L2N.CX P w outer (dels H Lc) s (fun cls d H' => Fre Lc H' → E cls d (ups H' Lc)) e s'' → L2N.CX P w outer H s E e s'' := fun e s'' ⟨a, B, H', cls, d, h1, fl, hok, ub, na, os, ag, hE⟩ => by
      have fr' : Fre Lc H' := fun b o e => ub.free b o (hinC b o e) (dels_on e)
      have inB : In Lc B := fun b o e => ub.keep b o (hinC b o e) (dels_on e) fun hb => by
        have z := e0.frf b hb
        rw [ht b o e] at z
        cases z
      refine ⟨a, B, ups H' Lc, cls, d, h1, fl, hok_ups hok inB fr', ub_in ub ht fr', ?_, os, ag, hE fr'⟩
      rw [ups_off]
      · exact na
      · rcases on_off a Lc with ⟨o, hb⟩ | hb
        · have z := fl.2.1
          rw [inB a o hb] at z
          cases z
        · exact hb
    exact wpAny_mono hq (fun _ s'' z => conv _ s'' z) fun e' s'' z => conv e' s'' z
end
end LM

set_option Elab.async false
set_option linter.all false
set_option maxRecDepth 100000
set_option maxHeartbeats 4000000
/-! LM2: a lambda made, told with its cells; plain data lets tracked objects go. -/
namespace LM
open PySem PySem.Spec PyProof.Rows L2 LamX HM

section
variable {X : Cx} {pins : List (Addr × Obj)} {σ : L2.St} {H : Hp} {s : Shared}
/-- the lambda is made: all but the table's object stands as before -/
theorem lam_make3 {c P : Addr} {params : Arguments} {body : Expr} {scope : Scope} {pos : Pos} {E : Value → Shared → Prop} {Q : Value → Shared → Prop} (I : Inv X pins σ H s) (TB : TabB X.base X.mg c P) (hcode : X.env.code = .ref c)
    (hT : TabS H P (X.env.qual ++ "<lambda>")) (hdef : defaultsOf params X.env = ([], [])) (hfree : ∀ y ∈ scope.names, y.2 = .free → ∃ c, X.env.cells.lookup y.1 = some c)
    (h : ∀ (f c' : Addr) (pm ctv : Value) (H1 : Hp) (s' : Shared), Inv X pins σ H1 s' → (∀ b o, b ≠ P → H b = some o → H1 b = some o) → TabS H1 P (X.env.qual ++ "<lambda>") → s.heap.objs.size ≤ f →
      s'.heap.get? f = some (PySem.W.kla_obj "<lambda>" (X.env.qual ++ "<lambda>") params body scope (cloFrom X.env.cells scope.names []) pm c' ctv) → H1 f = none → H1 c' = some (CodeO c' (X.env.qual ++ "<lambda>")) → c' ≠ P → Q (.ref f) s') :
    wpAny (model X.prog X.w) X.A (eval (.Lambda params body scope pos) X.env) Q E s := by
  obtain ⟨ps, hP, ht, ha⟩ := hT
  refine PySem.W.kla_eval hdef ?_
  have bP : s.heap.BuiltinsAt X.mg P := TB.bm.keeps I.bk
  have hP' : s.heap.get? P = some { cls := .none, data := .fields ps } := I.hok P _ hP
  cases hc : codeAmong pos ps.toList with
  | none =>
    refine PySem.W.kla_makeFunction (mg := X.mg) (c := c) (P := P) (ps := ps) (closure_ok hfree) I.ok.glob (I.mod.glob.keeps I.bk) hcode (TB.code.keeps I.bk) hP' ht hc TB.gP bP fun c' ctv h' tk hx hge hlt hrec htb => ?_
    obtain ⟨c2, oc, vs, t, e2, hoc, hd, hv⟩ := hrec
    cases e2
    have hsz : s.heap.objs.size ≤ h'.objs.size := Nat.le_trans hge (Nat.le_of_lt hlt)
    have nC : H c' = none := I.hok.fresh hge
    have I1 := inv_table (t' := tk) (more := #[rawInt pos.line, rawInt pos.col, .ref c']) (h' := h'.push (PySem.W.kla_obj "<lambda>" (X.env.qual ++ "<lambda>") params body scope (cloFrom X.env.cells scope.names []) ((X.mg "__name__").getD .none) c' ctv)) I hP
      (fun b o hb e => Heap.get?_push_of_some _ (hx b o hb e)) (Heap.get?_push_of_some _ htb) hge ⟨oc, vs, t, Heap.get?_push_of_some _ hoc, hd, hv⟩
    have hE : ∀ b o, b ≠ P → H b = some o → upd (upd H P (.tbl (ps ++ #[rawInt pos.line, rawInt pos.col, .ref c']))) c' (CodeO c' (X.env.qual ++ "<lambda>")) b = some o := fun b o n e => by
      rw [upd_ne (ne_of_none e nC), upd_ne n]
      exact e
    have eL : (ps ++ #[rawInt pos.line, rawInt pos.col, .ref c']).toList = ps.toList ++ [rawInt pos.line, rawInt pos.col, .ref c'] := by simp
    have cP : ∀ c0 q0, H c0 = some (CodeO c0 q0) → c0 ≠ P := fun c0 q0 e z => by
      rw [z, hP] at e
      exact codeO_ne ps (Option.some.inj e).symm
    refine h h'.objs.size c' ((X.mg "__name__").getD .none) ctv _ _ I1 hE ?_ hsz (Heap.get?_push_size _ rfl) ?_ upd_same (ne_of_none hP nC).symm
    · refine ⟨_, by rw [upd_ne (ne_of_none hP nC), upd_same], by rw [eL]; exact PySem.TriplesOk_snoc _ _ _ _ ht, fun p' cv hcv => ?_⟩
      rw [eL] at hcv
      rcases among_app _ ht hcv with z | z
      · obtain ⟨c0, e1, e2⟩ := ha p' cv z
        exact ⟨c0, e1, hE _ _ (cP _ _ e2) e2⟩
      · exact ⟨c', z, upd_same⟩
    · have n1 : h'.objs.size ≠ c' := Nat.ne_of_gt hlt
      have n2 : h'.objs.size ≠ P := Nat.ne_of_gt (Nat.lt_of_lt_of_le (Heap.lt_size hP') hsz)
      rw [upd_ne n1, upd_ne n2]
      exact I.hok.fresh hsz
  | some cv =>
    obtain ⟨c', e, hco⟩ := ha pos cv hc
    subst e
    refine PySem.W.kla_makeFunctionHit (mg := X.mg) (c := c) (P := P) (ps := ps) (closure_ok hfree) I.ok.glob (I.mod.glob.keeps I.bk) hcode (TB.code.keeps I.bk) hP' ht hc bP fun ctv h' tk hx hsz => ?_
    have I1 : Inv X pins σ H { s with heap := h'.push (PySem.W.kla_obj "<lambda>" (X.env.qual ++ "<lambda>") params body scope (cloFrom X.env.cells scope.names []) ((X.mg "__name__").getD .none) c' ctv), toks := tk } := I.kept fun b o e => Heap.get?_push_of_some _ (hx b o e)
    refine h h'.objs.size c' ((X.mg "__name__").getD .none) ctv H _ I1 (fun _ _ _ e => e) ⟨ps, hP, ht, ha⟩ hsz (Heap.get?_push_size _ rfl) (I.hok.fresh hsz) hco fun z => ?_
    rw [z, hP] at hco
    exact codeO_ne ps (Option.some.inj hco).symm
/-- the cells of the captured names, as they stand -/
theorem cells_told {fr : List Str} {vs : List V} {cl : List (Str × Addr)} (I : Inv X pins σ H s) (sub : ∀ y c, cl.lookup y = some c → X.env.cells.lookup y = some c) (sup : ∀ y ∈ fr, ∀ c, X.env.cells.lookup y = some c → cl.lookup y = some c) (dom : ∀ y c, cl.lookup y = some c → y ∈ fr)
    (kin : ∀ y ∈ fr, X.env.scope.names.lookup y = some .cell) (hl : vs.length = fr.length) (at_ : ∀ (i : Nat) y v, fr[i]? = some y → vs[i]? = some v → ∃ j : Nat, X.N[j]? = some y ∧ σ[j]? = some (some v)) :
    ∃ Lc : Xs, CellsOk cl Lc fr vs ∧ In Lc s.heap ∧ Fre Lc H ∧ (∀ p ∈ Lc, s.heap.get? p.1 = some p.2) ∧ (∀ b o, Lc.lookup b = some o → (∃ u, o.data = .cell u) ∧ ∃ y ∈ fr, X.env.cells.lookup y = some b) := by
  have hc : ∀ y ∈ fr, ∃ c, X.env.cells.lookup y = some c := fun y hy => I.ok.has y (.inl (kin y hy))
  have key : ∀ l : List Str, (∀ y ∈ l, y ∈ fr) → ∃ Lc : Xs, (∀ b o, Lc.lookup b = some o → s.heap.get? b = some o ∧ ∃ y ∈ l, X.env.cells.lookup y = some b) ∧ (∀ p ∈ Lc, s.heap.get? p.1 = some p.2) ∧ ∀ y ∈ l, ∀ c, X.env.cells.lookup y = some c → ∃ o, Lc.lookup c = some o := by
    intro l
    induction l with
    | nil => intro _; exact ⟨[], fun b o e => by simp at e, fun p hp => by simp at hp, fun y hy => by simp at hy⟩
    | cons y l ih =>
      intro hsub
      obtain ⟨Lc, h1, h3, h2⟩ := ih fun z hz => hsub z (List.mem_cons_of_mem _ hz)
      obtain ⟨c, e⟩ := hc y (hsub y List.mem_cons_self)
      obtain ⟨v, o, ho, hd⟩ := I.cell y c e
      refine ⟨(c, o) :: Lc, fun b o' e' => ?_, fun p hp => (List.mem_cons.mp hp).elim (fun e => by rw [e]; exact ho) (h3 p), fun z hz c' e' => ?_⟩
      · rw [List.lookup_cons] at e'
        split at e'
        · rename_i hb
          have hb : b = c := by simpa using hb
          cases e'
          exact ⟨hb ▸ ho, y, List.mem_cons_self, hb ▸ e⟩
        · obtain ⟨a1, z, hz, a2⟩ := h1 b o' e'
          exact ⟨a1, z, List.mem_cons_of_mem _ hz, a2⟩
      · rw [List.lookup_cons]
        split
        · exact ⟨_, rfl⟩
        · rename_i hb
          rcases List.mem_cons.mp hz with rfl | hz
          · rw [e] at e'
            cases e'
            simp at hb
          · exact h2 z hz c' e'
  obtain ⟨Lc, h1, h3, h2⟩ := key fr fun _ h => h
  have cellAt : ∀ b o, Lc.lookup b = some o → ∃ u, o.data = .cell u := fun b o e => by
    obtain ⟨a1, y, hy, a2⟩ := h1 b o e
    obtain ⟨v, o', ho, hd⟩ := I.cell y b a2
    rw [a1] at ho
    cases ho
    exact ⟨v, hd⟩
  refine ⟨Lc, ⟨hl, fun x c e => ?_, fun x y c e1 e2 => I.ok.inj x y c (sub x c e1) (sub y c e2), fun i x v e1 e2 => ?_, fun x hx => ?_⟩, fun b o e => (h1 b o e).1, fun b o e => ?_, h3, fun b o e => ⟨cellAt b o e, (h1 b o e).2⟩⟩
  · obtain ⟨o, ho⟩ := h2 x (dom x c e) c (sub x c e)
    obtain ⟨u, hu⟩ := cellAt c o ho
    exact ⟨o, u, ho, hu⟩
  · have hx := List.mem_of_getElem? e1
    obtain ⟨c, hcx⟩ := hc x hx
    obtain ⟨j, n1, n2⟩ := at_ i x v e1 e2
    obtain ⟨m, hn, hlk⟩ := I.loc
    obtain ⟨u, r, q⟩ := hlk j x v n1 n2 (.inr (.inl (kin x hx)))
    rcases q with ⟨k, _⟩ | ⟨_, c', e', o', ho', hd'⟩
    · have k : X.env.scope.names.lookup x = some .local := k
      rw [kin x hx] at k
      cases k
    · rw [hcx] at e'
      cases e'
      obtain ⟨o, ho⟩ := h2 x hx c hcx
      have e3 := (h1 c o ho).1
      rw [ho'] at e3
      cases e3
      exact ⟨c, o', u, sup x hx c hcx, ho, hd', r⟩
  · obtain ⟨c, e⟩ := hc x hx
    exact ⟨c, sup x hx c e⟩
  · obtain ⟨_, y, _, a2⟩ := h1 b o e
    exact I.freeC y b a2
end

/-! ### plain data -/
mutual
def plD : Dt → Bool
  | .non => true | .bl _ => true | .int _ => true | .str _ => true | .raw _ => true
  | .tup l => plDs l | .lst l => plDs l | .dic _ l => plDs l
  | .exc _ _ _ => false | .cau _ _ _ _ _ => false | .fn _ _ _ _ => false
def plDs : List Dt → Bool
  | [] => true
  | d :: l => plD d && plDs l
end
section
variable {K : PySem.W.Frag} {F : Hp} {L : Xs}
theorem sqT_dels (t : Trk L F) {a : Addr} {xs : List V} (h : SqT K F a xs) : SqT K (dels F L) a xs := by
  rcases h with (h | ⟨o, h⟩) | h
  · exact .inl (.inl (by rw [dels_off (off_t t h fun o z => exo_tup z.symm)]; exact h))
  · exact .inl (.inr ⟨o, by rw [dels_off (off_t t h fun o z => exo_frz z.symm)]; exact h⟩)
  · exact .inr h
theorem sqL_dels (t : Trk L F) {a : Addr} {xs : List V} (h : SqL K F a xs) : SqL K (dels F L) a xs := by
  rcases h with (h | ⟨o, h⟩) | h
  · exact .inl (.inl (by rw [dels_off (off_t t h fun o z => exo_lst z.symm)]; exact h))
  · exact .inl (.inr ⟨o, by rw [dels_off (off_t t h fun o z => exo_frz z.symm)]; exact h⟩)
  · exact .inr h
mutual
theorem Rep.dels (t : Trk L F) : ∀ (d : Dt) {v : V}, plD d = true → Rep K F d v → Rep K (dels F L) d v
  | .non, _, _, h => h
  | .bl _, _, _, h => h
  | .int _, _, _, h => h
  | .str _, _, _, h => h
  | .raw _, _, _, h => h
  | .tup l, v, hp, h => by
    obtain ⟨a, vs, e1, e2, e3⟩ := h
    exact ⟨a, vs, e1, sqT_dels t e2, Reps.dels t l (by simpa [plD] using hp) e3⟩
  | .lst l, v, hp, h => by
    obtain ⟨a, vs, e1, e2, e3⟩ := h
    exact ⟨a, vs, e1, sqL_dels t e2, Reps.dels t l (by simpa [plD] using hp) e3⟩
  | .dic ks l, v, hp, h => by
    obtain ⟨a, vs, e1, e2, e3, e4⟩ := h
    exact ⟨a, vs, e1, by rw [dels_off (off_t t e2 fun o z => exo_dK z.symm)]; exact e2, e3, Reps.dels t l (by simpa [plD] using hp) e4⟩
  | .exc _ _ _, _, hp, _ => by simp [plD] at hp
  | .cau _ _ _ _ _, _, hp, _ => by simp [plD] at hp
  | .fn _ _ _ _, _, hp, _ => by simp [plD] at hp
theorem Reps.dels (t : Trk L F) : ∀ (l : List Dt) {vs : List V}, plDs l = true → Reps K F l vs → Reps K (dels F L) l vs
  | [], _, _, h => h
  | d :: l, vs, hp, h => by
    obtain ⟨v, r, e1, e2, e3⟩ := h
    have hp : plD d = true ∧ plDs l = true := by simpa [plDs] using hp
    exact ⟨v, r, e1, Rep.dels t d hp.1 e2, Reps.dels t l hp.2 e3⟩
end
end
def plM : Mst → Bool
  | [] => true
  | (_, .l ds) :: M => plDs ds && plM M
  | (_, .t _) :: M => plM M
/-- no record among them -/
def NoRec (L : Xs) : Prop := ∀ b o, L.lookup b = some o → (∀ vs, o.data ≠ .fields vs) ∧ o.isFreed = false
theorem heap_of (n : Nat) : ∃ h : Heap, h.objs.size = n := by
  induction n with
  | zero => exact ⟨{}, rfl⟩
  | succ n ih =>
    obtain ⟨h, e⟩ := ih
    exact ⟨h.push { cls := .none, data := .fields #[] }, by rw [Heap.size_push, e]⟩
theorem codeO_exo {c : Addr} {q : Str} {o : Obj} (hn : ∀ vs, o.data ≠ .fields vs) (hfz : o.isFreed = false) : CodeO c q ≠ EXO c o := fun z => by
  unfold CodeO EXO at z
  have z2 := HO.ext.inj z
  obtain ⟨h, e⟩ := heap_of c
  have hg : (h.push o).get? c = some o := by rw [← e]; exact Heap.get?_push_size _ hfz
  have := (congrFun z2 (h.push o)).symm.mp hg
  obtain ⟨oc, vs, t, h1, h2, _⟩ := this
  rw [hg] at h1
  cases h1
  exact hn vs h2
section
variable {K : PySem.W.Frag} {F H F' H' : Hp} {L : Xs} {M : Mst} {m : List Addr}
theorem code_off {c : Addr} {q : Str} (n : NoRec L) (t : Trk L H) (e : H c = some (CodeO c q)) : Off c L := by
  rcases on_off c L with ⟨o, h⟩ | h
  · rw [t c o h] at e
    exact absurd (Option.some.inj e).symm (codeO_exo (n c o h).1 (n c o h).2)
  · exact h
theorem Sta.dels (s : Sta K F M H) (t : Trk L F) (n : NoRec L) (hp : plM M = true) : Sta K (dels F L) M (dels H L) := by
  have tH : Trk L H := fun b o e => s.sub _ _ (t b o e)
  refine ⟨fun a o e => ?_, fun p hp' => ?_, fun p hp' => ?_, s.nd⟩
  · rcases on_off a L with ⟨o', h⟩ | h
    · rw [dels_on h] at e
      cases e
    · rw [dels_off h] at e ⊢
      exact s.sub a o e
  · have hm := s.mt p hp'
    obtain ⟨a, u⟩ := p
    have hpu : ∀ ds, u = .l ds → plDs ds = true := fun ds e => by
      subst e
      clear hm s
      induction M with
      | nil => cases hp'
      | cons x M ih =>
        obtain ⟨b, y⟩ := x
        rcases List.mem_cons.mp hp' with e | h
        · cases e
          have : plDs ds = true ∧ plM M = true := by simpa [plM] using hp
          exact this.1
        · refine ih ?_ h
          cases y with
          | l ds' =>
            have : plDs ds' = true ∧ plM M = true := by simpa [plM] using hp
            exact this.2
          | t q => simpa [plM] using hp
    cases u with
    | l ds =>
      obtain ⟨vs, e, r⟩ := hm
      exact ⟨vs, by show LM.dels H L a = _; rw [dels_off (off_t tH e fun o z => exo_lst z.symm)]; exact e, Reps.dels t ds (hpu ds rfl) r⟩
    | t q =>
      obtain ⟨ps, e, h1, h2⟩ := hm
      refine ⟨ps, by show LM.dels H L a = _; rw [dels_off (off_t tH e fun o z => exo_tbl z.symm)]; exact e, h1, fun pos cv hc => ?_⟩
      obtain ⟨c, e1, e2⟩ := h2 pos cv hc
      exact ⟨c, e1, by rw [dels_off (code_off n tH e2)]; exact e2⟩
  · have h := s.off p hp'
    rw [dels_off (off_n t h)]
    exact h
theorem ups_mono (f : Fre L F) : Sub F (ups F L) := fun a o e => by
  rw [ups_off (off_of f e)]
  exact e
theorem Sta.ups (s : Sta K F M H) (f : Fre L H) : Sta K (ups F L) M (ups H L) := by
  have fF : Fre L F := fun b o e => s.free (f b o e)
  refine ⟨fun a o e => ?_, fun p hp => MuOk.ext (ups_mono fF) (ups_mono f) (s.mt p hp), fun p hp => ?_, s.nd⟩
  · rcases on_off a L with ⟨o', h⟩ | h
    · rw [ups_on h] at e ⊢
      exact e
    · rw [ups_off h] at e ⊢
      exact s.sub a o e
  · have h := MuOk.there (s.mt p hp)
    have hoff : Off p.1 L := by
      rcases on_off p.1 L with ⟨o', h'⟩ | h'
      · exact absurd (f _ _ h') h
      · exact h'
    rw [ups_off hoff]
    exact s.off p hp
theorem gr_in (g : Gr m (dels F L) (dels H L) F' H') (tF : Trk L F) (tH : Trk L H) (f : Fre L H') (fF : Fre L F') : Gr m F H (ups F' L) (ups H' L) := by
  refine ⟨fun a o ha e => ?_, fun a o e => ?_, fun a xs e n => ?_, fun a ha e => ?_⟩
  · rcases on_off a L with ⟨o', h⟩ | h
    · rw [tH a o' h] at e
      rw [ups_on h]
      exact e
    · rw [ups_off h]
      exact g.ex a o ha (by rw [dels_off h]; exact e)
  · rcases on_off a L with ⟨o', h⟩ | h
    · rw [tF a o' h] at e
      rw [ups_on h]
      exact e
    · rw [ups_off h]
      exact g.sub a o (by rw [dels_off h]; exact e)
  · have h := off_n tF n
    rw [ups_off h] at e
    have := g.new a xs e (by rw [dels_off h]; exact n)
    rw [dels_off h] at this
    exact this
  · rcases on_off a L with ⟨o', h⟩ | h
    · rw [ups_on h]
      simp
    · rw [ups_off h]
      exact g.old a ha (by rw [dels_off h]; exact e)
theorem gr_out {F1 : Hp} (g : Gr m F1 (ups H L) F' H') (sb : Sub F F1) (f : Fre L H) (fF : Fre L F) (nl : ∀ a xs, F1 a = some (.lst xs) → F a = some (.lst xs)) : Gr m F H (dels F' L) (dels H' L) := by
  refine ⟨fun a o ha e => ?_, fun a o e => ?_, fun a xs e n => ?_, fun a ha e => ?_⟩
  · have h := off_of f e
    rw [dels_off h]
    exact g.ex a o ha (by rw [ups_off h]; exact e)
  · have h := off_of fF e
    rw [dels_off h]
    exact g.sub a o (sb a o e)
  · rcases on_off a L with ⟨o', h⟩ | h
    · rw [dels_on h] at e
      cases e
    · rw [dels_off h] at e
      have n1 : F1 a = none := by
        cases e1 : F1 a with
        | none => rfl
        | some o =>
          have e2 := g.sub a o e1
          rw [e] at e2
          cases e2
          rw [nl a xs e1] at n
          cases n
      have := g.new a xs e n1
      rw [ups_off h] at this
      exact this
  · have h : Off a L := by
      rcases on_off a L with ⟨o', h'⟩ | h'
      · exact absurd (f _ _ h') e
      · exact h'
    rw [dels_off h]
    exact g.old a ha (by rw [ups_off h]; exact e)
end
end LM

set_option Elab.async false
set_option linter.all false
set_option maxRecDepth 100000
set_option maxHeartbeats 4000000
/-! LM3: lambdas over data: made and handed to a def, called there. -/
namespace LM
open PySem PySem.Spec PyProof.Rows L2 LamX HM

/-- a call of the lambda at f: L what must stand, l the captured data, vs what it is -/
def spL (K : PySem.W.Frag) (L : List (Addr × HO)) (l : List Dt) (vs : List V) (M : Mst) (R : Dt → Mst → Prop) (Z : Er) : Sp := fun us H Q E => us = [] ∧ ∃ F : Hp, Sta K F M H ∧ (∀ p ∈ L, F p.1 = some p.2) ∧ Reps K F l vs ∧
  (∀ d M' v F' H', R d M' → dom M' = dom M → Gr (dom M) F H F' H' → Sta K F' M' H' → Rep K F' d v → Q v H') ∧
  (∀ C ks fs M' dd ws F' H', Z C ks fs M' → dom M' = dom M → Gr (dom M) F H F' H' → Sta K F' M' H' → F' dd = some (.xd (ks.zip ws)) → ks.length = ws.length → Reps K F' fs ws → E (.ref C) (some dd) H')
def isFn (o : Obj) : Prop := ∃ oc od fd sl, o = ⟨oc, od, .func fd, sl⟩
/-- what calling it does -/
structure LmOk (P : Program) (w : World) (K : PySem.W.Frag) (mg : Str → Option Value) (base : Heap) (k : Nat) (f : Addr) (L : List (Addr × HO)) (l : List Dt) (vs : List V) (M : Mst) (R : Dt → Mst → Prop) (Z : Er) : Prop where
  fn : FnR P w K mg base (L2N.CX P w) k f (spL K L l vs M R Z)
  at_ : ∃ o, (f, EXO f o) ∈ L ∧ isFn o
/-- x(), x a name that holds it -/
theorem ez_act {X : Cx} {G : List (Option Dt)} {M : Mst} {R : Dt → Mst → Prop} {Z : Er} {x : Str} {p1 p2 : Pos} {f : Addr} {L : List (Addr × HO)} {l : List Dt} {vs : List V} {k j : Nat} (i : Nat) (F : LmOk X.prog X.w X.K X.mg X.base k f L l vs M R Z) (hr : Room j X.A) (hj : k ≤ j)
    (hG : G[i]? = some (some (.fn f L l vs)) := by rfl) (hN : X.N[i]? = some x := by rfl) (hv : Vis X.env.scope x := by first | exact Or.inl rfl | exact Or.inr (Or.inl rfl) | exact Or.inr (Or.inr rfl))
    (hd : (x == ("__debug__" : Str)) = false := by decide) (hcd : (x == ("__classdict__" : Str)) = false := by decide) : EZ X (.Call (.Name x p1) [] [] p2) G M R Z := by
  intro B σ H Q ⟨W, tk, hE⟩ ⟨F0, g0, s0, r0, m0⟩ kk pins s I
  obtain ⟨v0, hs, rv⟩ := r0.get i _ hG
  obtain ⟨ev, hL, hl⟩ := (show v0 = .ref f ∧ (∀ p ∈ L, F0 p.1 = some p.2) ∧ Reps X.K F0 l vs from rv)
  subst ev
  obtain ⟨o, ho, oc, od, fd, sl, eo⟩ := F.at_
  refine wpAny_Call_Name_kw (thn ((pe_var (pos := p1) hN hv hd hcd).run pins s σ H (fun v H1 => v = .ref f ∧ H1 = H) I ⟨.ref f, hs, rfl, rfl⟩) fun u s1 ⟨v, H1, I1, r1, q1⟩ => ?_)
  obtain ⟨ev, eH⟩ := q1
  subst ev
  rw [eH] at I1
  obtain rfl : u = Value.ref f := r1
  have of1 := exo_at I1.hok (s0.sub _ _ (hL _ ho))
  rw [eo] at of1
  refine PySem.W.callWith_F0 ⟨oc, od, fd, sl, of1⟩ ?_
  refine wpAny_call (codeAny_mono (F.fn X.A X.stack s1 H [] [] Q (WE W σ) (hr.mono hj) I1.env0 .nil ⟨rfl, F0, s0, hL, hl, fun d M' v F' H' hR hd g s' rv => ?_, fun C ks fs M' dd ws F' H' hZ hd g s' h1 h2 h3 => ?_⟩) fun r s' hq => ?_)
  · exact kk d M' v F' H' hR hd (g0.trans g m0) s' rv
  · exact hE G C ks fs M' dd ws σ F' H' ⟨rfl, hd, hZ⟩ (by rw [hd]; exact m0) (g0.trans g m0) s' (r0.mono g.sub) h1 h2 h3
  · cases r with
    | error e => exact L2N.passAt tk σ pins H s1 e s' I1 hq
    | ok fl =>
      cases fl with
      | ret u => exact I1.after hq
      | next => exact False.elim hq
      | brk => exact False.elim hq
      | cont => exact False.elim hq

def lamL (f c' : Addr) (q : Str) (o : Obj) (Lc : Xs) : List (Addr × HO) := (f, EXO f o) :: (c', CodeO c' q) :: Lc.map fun p => (p.1, EXO p.1 p.2)
theorem lookup_mem {L : Xs} {b : Addr} {o : Obj} (h : L.lookup b = some o) : (b, o) ∈ L := by
  induction L with
  | nil => simp at h
  | cons p L ih =>
    obtain ⟨a, u⟩ := p
    rw [List.lookup_cons] at h
    split at h
    · rename_i hb
      have hb : b = a := by simpa using hb
      cases h
      rw [hb]
      exact List.mem_cons_self
    · exact List.mem_cons_of_mem _ (ih h)
section
variable {P : Program} {w : World} {K : PySem.W.Frag} {mg : Str → Option Value} {base : Heap} {fr : List Str} {q : Str} {scope : Scope} {f c' : Addr} {cl : List (Str × Addr)} {Lc : Xs} {vs : List V} {params : Arguments} {body : Expr} {pm ctv : Value} {k : Nat} {l : List Dt} {M : Mst} {R : Dt → Mst → Prop} {Z : Er}
theorem lmOk_of (S : LS scope fr) (C : CellsOk cl Lc fr vs) (n : NoRec Lc) (hbind : bindArgs (PySem.W.kla_fn "<lambda>" q params body scope cl pm (.ref c') ctv) ⟨[], []⟩ = pure []) (hl : plDs l = true) (hM : plM M = true)
    (hbody : ∀ (A : Around) (outer : List Env) (s : Shared) (H : Hp) (E : XK), Room k (lamC P w K mg base fr q scope f c' cl A outer s H E).A → EZ (lamC P w K mg base fr q scope f c' cl A outer s H E) body (l.map some) M R Z) :
    LmOk P w K mg base (k + 1) f (lamL f c' q (PySem.W.kla_obj "<lambda>" q params body scope cl pm c' ctv) Lc) l vs M R Z := by
  refine ⟨fun A outer s H us vs' Q E hr e0 rv ⟨eus, F, s0, hL, hrl, hk, hz⟩ => ?_, ⟨_, List.mem_cons_self, _, _, _, _, rfl⟩⟩
  subst eus
  have tF : Trk Lc F := fun b o e => hL (b, EXO b o) (List.mem_cons_of_mem _ (List.mem_cons_of_mem _ (List.mem_map.mpr ⟨(b, o), lookup_mem e, rfl⟩)))
  have tH : Trk Lc H := fun b o e => s0.sub _ _ (tF b o e)
  refine lam_fnR S C hbind A outer s H us [] Q E hr e0 rv ⟨rfl, s0.sub _ _ (hL _ List.mem_cons_self), s0.sub _ _ (hL _ (List.mem_cons_of_mem _ List.mem_cons_self)), tH, fun A' outer' s' s1 pins hr' J => ?_⟩
  have s1' := LM.Sta.dels s0 tF n hM
  have rl : RepS K (dels F Lc) (vs.map some) (l.map some) := by
    have := RepS.start (LM.Reps.dels tF l hl hrl) 0
    simpa using this
  have inC : ∀ b o, Lc.lookup b = some o → dels H Lc b = none := fre_dels H Lc
  refine hbody A' outer' s' (dels H Lc) _ hr' ⟨dels F Lc, dels H Lc, dom M⟩ (vs.map some) (dels H Lc) _ ⟨fun cls d _ H' => Fre Lc H' → E cls d (ups H' Lc), L2N.takes_of rfl rfl rfl rfl, fun G' C' ks fs M' dd ws σ' F' H' ⟨_, hd, hZ⟩ hm g s2 _ h1 h2 h3 => ?_⟩ ⟨dels F Lc, Gr.refl _ _ _, s1', rl, fun a ha => .inl ha⟩ (fun d M' v F' H' hR hd g s2 rv => ?_) pins s1 J
  · intro fH
    have fF : Fre Lc F' := fun b o e => s2.free (fH b o e)
    exact hz C' ks fs M' dd ws _ _ hZ hd (gr_in g tF tH fH fF) (LM.Sta.ups s2 fH) ((ups_mono fF) _ _ h1) h2 (Reps.mono (ups_mono fF) _ h3)
  · intro fH
    have fF : Fre Lc F' := fun b o e => s2.free (fH b o e)
    exact hk d M' v _ _ hR hd (gr_in g tF tH fH fF) (LM.Sta.ups s2 fH) (Rep.mono (ups_mono fF) _ rv)
end

section
variable {X : Cx} {e2 : Expr} {G : List (Option Dt)} {M : Mst} {d2 : Dt} {pos apos lpos : Pos} {x : Str} {b : Bool} {fr : List Str} {scope : Scope} {params : Arguments} {body : Expr} {l : List Dt} {Rc : Dt → Mst → Prop} {Zc : Er} {k j i : Nat} {W : Ct} {c P : Addr}
theorem slots_of {K : PySem.W.Frag} {F : Hp} {σ : L2.St} (rs : RepS K F σ G) : ∀ {js : List Nat} {l : List Dt}, js.map (fun j => G[j]?) = l.map (fun d => some (some d)) → ∃ vs : List V, Reps K F l vs ∧ vs.length = js.length ∧ ∀ (i : Nat) j v, js[i]? = some j → vs[i]? = some v → σ[j]? = some (some v)
  | [], [], _ => ⟨[], rfl, rfl, fun i j v e => by simp at e⟩
  | j :: js, d :: l, h => by
    rw [List.map_cons, List.map_cons] at h
    obtain ⟨h1, h2⟩ := List.cons.inj h
    obtain ⟨vs, a1, a2, a3⟩ := slots_of rs h2
    obtain ⟨v, b1, b2⟩ := rs.get j d h1
    refine ⟨v :: vs, ⟨v, vs, rfl, b2, a1⟩, by simp [a2], fun i j' v' e1 e2 => ?_⟩
    cases i with
    | zero =>
      have e1 : j = j' := by simpa using e1
      have e2 : v = v' := by simpa using e2
      rw [← e1, ← e2]
      exact b1
    | succ i => exact a3 i j' v' (by simpa using e1) (by simpa using e2)
  | [], _ :: _, h => by simp at h
  | _ :: _, [], h => by simp at h
/-- x(lambda: body, e2) -/
theorem ex_lamcall (F : Df X.prog X.w X.K X.mg X.base x j W) (hr : Room i X.A) (hj : j ≤ i) (TB : TabB X.base X.mg c P) (hcode : X.env.code = .ref c) (hT : (P, Mu.t (X.env.qual ++ "<lambda>")) ∈ M) (S : LS scope fr) (hdef : defaultsOf params X.env = ([], []))
    (hbind : ∀ (q : Str) (cl : List (Str × Addr)) (pm cv ctv : Value), bindArgs (PySem.W.kla_fn "<lambda>" q params body scope cl pm cv ctv) ⟨[], []⟩ = pure []) (kin : ∀ y ∈ fr, X.env.scope.names.lookup y = some .cell) (frn : ∀ y ∈ fr, (y, NameKind.free) ∈ scope.names) (hfn : ∀ y ∈ fr, X.fn y = true)
    (js : List Nat) (hjs : js.map (fun j => X.N[j]?) = fr.map some) (hG : js.map (fun j => G[j]?) = l.map (fun d => some (some d))) (hl : plDs l = true) (hM : plM M = true) (he2 : EX X e2 G M d2 M)
    (hbody : ∀ (f c' : Addr) (cl : List (Str × Addr)) (A : Around) (outer : List Env) (s : Shared) (H : Hp) (E : XK), Room k (lamC X.prog X.w X.K X.mg X.base fr (X.env.qual ++ "<lambda>") scope f c' cl A outer s H E).A → EZ (lamC X.prog X.w X.K X.mg X.base fr (X.env.qual ++ "<lambda>") scope f c' cl A outer s H E) body (l.map some) M Rc Zc)
    (hw : ∀ f L vs, LmOk X.prog X.w X.K X.mg X.base (k + 1) f L l vs M Rc Zc → W [.fn f L l vs, d2] M (fun d' M' => d' = .bl b ∧ M' = M) E00)
    (hg : Gl X x := by rfl) (hdb : (x == ("__debug__" : Str)) = false := by decide) (hs : starEach [.Lambda params body scope lpos, e2] X.env = (false, eval (.Lambda params body scope lpos) X.env) :: starEach [e2] X.env := by rfl) (hs2 : starEach [e2] X.env = (false, eval e2 X.env) :: starEach [] X.env := by rfl) (hpl : (backTo pos (starEach [e2] X.env)).any (·.1) = false := by rfl) :
    EX X (.Call (.Name x apos) [.Lambda params body scope lpos, e2] [] pos) G M (.bl b) M := by
  obtain ⟨g, hm, hk, Fn⟩ := F
  refine ⟨rfl, fun σ F0 H Q rs st q pins s I => ?_⟩
  have hfree : ∀ y ∈ scope.names, y.2 = .free → ∃ c, X.env.cells.lookup y.1 = some c := fun y hy e => I.ok.has _ (.inl (kin _ (S.free y hy e)))
  have hPM : P ∈ dom M := mem_dom hT
  have hFP : F0 P = none := st.off _ hT
  have hTab : TabS H P (X.env.qual ++ "<lambda>") := st.mt _ hT
  refine wpAny_Call_Name_kw (ld_glob I hg hm ?_ hdb)
  refine PySem.W.callWith_K (h₀ := X.base) I.ok.mod.kin hk ?_ hs hpl
  rw [hs]
  show wpAny _ _ (spliced ((false, eval (.Lambda params body scope lpos) X.env) :: backTo pos (starEach [e2] X.env))) _ _ s
  refine Calls.spliced_cons (lam_make3 I TB hcode hTab hdef hfree fun f c' pm ctv H1 s1 I1 eN T1 hsz hf hf0 hco hcP => ?_)
  -- what is known of the state with the lambda
  have st1 : Sta X.K F0 M H1 := by
    refine ⟨fun a o e => eN a o (fun z => by rw [z, hFP] at e; cases e) (st.sub a o e), fun p hp => ?_, st.off, st.nd⟩
    by_cases hpP : p.1 = P
    · have e2 : p = (P, Mu.t (X.env.qual ++ "<lambda>")) := by
        have nd : (M.map (·.1)).Nodup := st.nd
        have key : ∀ {l : Mst} {p q : Addr × Mu}, (l.map (·.1)).Nodup → p ∈ l → q ∈ l → p.1 = q.1 → p = q := by
          intro l
          induction l with
          | nil => intro p q _ h; cases h
          | cons a l ih =>
            intro p q hn h1 h2 e
            have hn := List.nodup_cons.mp (show (a.1 :: l.map (·.1)).Nodup from hn)
            rcases List.mem_cons.mp h1 with e1 | h1 <;> rcases List.mem_cons.mp h2 with e2 | h2
            · rw [e1, e2]
            · exact absurd (List.mem_map.mpr ⟨q, h2, by rw [← e, e1]⟩) hn.1
            · exact absurd (List.mem_map.mpr ⟨p, h1, by rw [e, e2]⟩) hn.1
            · exact ih hn.2 h1 h2 e
        exact key nd hp hT hpP
      rw [e2]
      exact T1
    · have hm0 := st.mt p hp
      obtain ⟨a, u⟩ := p
      cases u with
      | l ds =>
        obtain ⟨vs, e, r⟩ := hm0
        exact ⟨vs, eN _ _ hpP e, r⟩
      | t q' =>
        obtain ⟨ps, e, h1, h2⟩ := hm0
        refine ⟨ps, eN _ _ hpP e, h1, fun pos cv hc => ?_⟩
        obtain ⟨c0, e1, e2⟩ := h2 pos cv hc
        refine ⟨c0, e1, eN _ _ (fun z => ?_) e2⟩
        obtain ⟨ps', e', _⟩ := hTab
        rw [z, e'] at e2
        exact codeO_ne ps' (Option.some.inj e2).symm
  have g1 : Gr (dom M) F0 H F0 H1 := ⟨fun a o ha e => eN a o (fun z => ha (z ▸ hPM)) e, Sub.refl _, (fun a xs h h' => by rw [h] at h'; cases h'), fun a ha _ => by
    obtain ⟨p, hp, e⟩ := List.mem_map.mp ha
    rw [← e]
    exact MuOk.there (st1.mt p hp)⟩
  have fnL : f ≠ X.env.locals := fun z => by
    have := I.lt
    rw [← z] at this
    exact absurd this (Nat.not_lt.mpr hsz)
  have fnF : f ∉ X.fs := I.nofs hsz
  have I1' : Inv X ((f, PySem.W.kla_obj "<lambda>" (X.env.qual ++ "<lambda>") params body scope (cloFrom X.env.cells scope.names []) pm c' ctv) :: pins) σ H1 s1 :=
    ⟨I1.ok, I1.os, I1.bare, I1.base, I1.loc, I1.cell, I1.free, I1.freeC, fun p hp => by
      rcases List.mem_append.mp hp with h | h
      · exact I1.pin p (List.mem_append_left _ h)
      · rcases List.mem_cons.mp h with rfl | h
        · exact ⟨hf, hf0, fnL, fnF, fun v z => by cases z⟩
        · exact I1.pin p (List.mem_append_right _ h), I1.hok, I1.len⟩
  rw [hs2]
  refine Calls.spliced_cons (thn (he2.2 σ F0 H1 (fun v H2 => ∃ F2, Gr (dom M) F0 H1 F2 H2 ∧ Sta X.K F2 M H2 ∧ Rep X.K F2 d2 v) rs st1 (fun v F2 H2 g2 s2 r2 => ⟨F2, g2, s2, r2⟩) _ s1 I1') fun u2 s2 ⟨v2, H2, I2, rv2, F2, g2, st2, r2⟩ => ?_)
  refine Calls.spliced_nil ⟨I2.kIn, ?_⟩
  have I2' : Inv X pins σ H2 s2 := ⟨I2.ok, I2.os, I2.bare, I2.base, I2.loc, I2.cell, I2.free, I2.freeC, fun p hp => by
    rcases List.mem_append.mp hp with h | h
    · exact I2.pin p (List.mem_append_left _ h)
    · exact I2.pin p (List.mem_append_right _ (List.mem_cons_of_mem _ h)), I2.hok, I2.len⟩
  obtain ⟨pf1, pf2, _, _, _⟩ := I2.pin _ (List.mem_append_right X.pn List.mem_cons_self)
  obtain ⟨vs, hrl, hvl, hvat⟩ := slots_of rs hG
  have hlen : js.length = fr.length := by
    have := congrArg List.length hjs
    simpa using this
  have hfr' : ∀ y ∈ scope.names, y.2 = .free → ∃ c, X.env.cells.lookup y.1 = some c := hfree
  obtain ⟨Lc, C, inL, freL, memL, cellD⟩ := cells_told (fr := fr) (vs := vs) (cl := cloFrom X.env.cells scope.names []) I2' (fun y a e => NdefX.clo_cm hfr' e) (fun y hy a e => NdefX.clo_has hfr' (frn y hy) e) (fun y a e => by
      rcases cloFrom_mem (PySem.mem_of_lookup e) with hm | ⟨h1, _⟩
      · cases hm
      · exact S.free _ h1 rfl) kin (hvl.trans hlen) (fun i y v e1 e2 => by
      have hi : i < js.length := by
        have := (List.getElem?_eq_some_iff.mp e1).1
        omega
      have ej : js[i]? = some js[i] := List.getElem?_eq_getElem hi
      have := congrArg (fun l : List (Option Str) => l[i]?) hjs
      simp only [List.getElem?_map, ej, e1, Option.map_some] at this
      exact ⟨js[i], Option.some.inj this, hvat i _ v ej e2⟩)
  generalize hof : PySem.W.kla_obj "<lambda>" (X.env.qual ++ "<lambda>") params body scope (cloFrom X.env.cells scope.names []) pm c' ctv = of_ at pf1
  have hlk : ∀ b o, (((f, of_) :: Lc : Xs)).lookup b = some o → (b = f ∧ o = of_) ∨ Lc.lookup b = some o := fun b o e => by
    rw [List.lookup_cons] at e
    split at e
    · rename_i hb
      cases e
      exact .inl ⟨by simpa using hb, rfl⟩
    · exact .inr e
  have inL' : In ((f, of_) :: Lc) s2.heap := fun b o e => by
    rcases hlk b o e with ⟨rfl, rfl⟩ | h
    · exact pf1
    · exact inL b o h
  have freL' : Fre ((f, of_) :: Lc) H2 := fun b o e => by
    rcases hlk b o e with ⟨rfl, rfl⟩ | h
    · exact pf2
    · exact freL b o h
  have norec : NoRec ((f, of_) :: Lc) := fun b o e => by
    rcases hlk b o e with ⟨rfl, rfl⟩ | h
    · subst hof
      exact ⟨(fun vs z => by cases z), rfl⟩
    · obtain ⟨⟨u, hu⟩, _⟩ := cellD b o h
      refine ⟨(fun vs z => by rw [hu] at z; cases z), ?_⟩
      exact (Heap.get?_some_iff.mp (inL b o h)).2
  have norecC : NoRec Lc := fun b o e => by
    obtain ⟨⟨u, hu⟩, _⟩ := cellD b o e
    exact ⟨(fun vs z => by rw [hu] at z; cases z), (Heap.get?_some_iff.mp (inL b o e)).2⟩
  have hge : ∀ b o, (((f, of_) :: Lc : Xs)).lookup b = some o → X.s_0.heap.objs.size ≤ b := fun b o e => by
    rcases hlk b o e with ⟨rfl, rfl⟩ | h
    · exact Nat.le_trans I.sz hsz
    · obtain ⟨_, y, hy, hc⟩ := cellD b o h
      exact I.ok.cab y b (hfn y hy) hc
  have hcd2 : H2 c' = some (CodeO c' (X.env.qual ++ "<lambda>")) := g2.ex c' _ (fun z => by
    obtain ⟨p, hp, e⟩ := List.mem_map.mp z
    have hm0 := st1.mt p hp
    obtain ⟨a, u⟩ := p
    have e : a = c' := e
    subst e
    cases u with
    | l ds =>
      obtain ⟨vs, e, r⟩ := hm0
      rw [hco] at e
      have e2 : HO.ext _ = HO.lst vs := Option.some.inj e
      cases e2
    | t q' =>
      obtain ⟨ps, e, _⟩ := hm0
      rw [hco] at e
      exact codeO_ne ps (Option.some.inj e)) hco
  have offc : Off c' ((f, of_) :: Lc) := off_of freL' hcd2
  have su := LM.Sta.ups (L := (f, of_) :: Lc) st2 freL'
  have fF2 : Fre ((f, of_) :: Lc) F2 := fun b o e => st2.free (freL' b o e)
  -- the frozen part, with what the lambda needs
  have sbF : Sub (ups F2 ((f, of_) :: Lc)) (upd (ups F2 ((f, of_) :: Lc)) c' (CodeO c' (X.env.qual ++ "<lambda>"))) := fun a o e => by
    by_cases h : a = c'
    · subst h
      rw [upd_same]
      have := su.sub a o e
      rw [ups_off offc, hcd2] at this
      exact this
    · rw [upd_ne h]
      exact e
  have sF : Sta X.K (upd (ups F2 ((f, of_) :: Lc)) c' (CodeO c' (X.env.qual ++ "<lambda>"))) M (ups H2 ((f, of_) :: Lc)) := by
    refine ⟨fun a o e => ?_, fun p hp => MuOk.ext sbF (fun _ _ e => e) (su.mt p hp), fun p hp => ?_, su.nd⟩
    · by_cases h : a = c'
      · subst h
        rw [upd_same] at e
        rw [ups_off offc, hcd2]
        exact e
      · rw [upd_ne h] at e
        exact su.sub a o e
    · rw [upd_ne]
      · exact su.off p hp
      · intro z
        have hm0 := st2.mt p hp
        obtain ⟨a, u⟩ := p
        have z : a = c' := z
        subst z
        cases u with
        | l ds =>
          obtain ⟨vs, e, r⟩ := hm0
          rw [hcd2] at e
          have e2 : HO.ext _ = HO.lst vs := Option.some.inj e
          cases e2
        | t q' =>
          obtain ⟨ps, e, _⟩ := hm0
          rw [hcd2] at e
          exact codeO_ne ps (Option.some.inj e)
  have sb02 : Sub F0 (upd (ups F2 ((f, of_) :: Lc)) c' (CodeO c' (X.env.qual ++ "<lambda>"))) := (g2.sub.trans (ups_mono fF2)).trans sbF
  have hfc : f ≠ c' := fun z => by
    rw [z, hco] at hf0
    cases hf0
  have hlkf : (((f, of_) :: Lc : Xs)).lookup f = some of_ := by
    rw [List.lookup_cons]
    simp
  have hlkm : ∀ p ∈ Lc, (((f, of_) :: Lc : Xs)).lookup p.1 = some p.2 := fun p hp => by
    obtain ⟨o, ho⟩ := mem_on hp
    have e1 := memL p hp
    by_cases hb : p.1 = f
    · rw [hb, hlkf]
      rw [hb, pf1] at e1
      exact e1
    · rw [List.lookup_cons]
      have : (p.1 == f) = false := by simpa using hb
      rw [this]
      have e2 := inL _ _ ho
      rw [e1] at e2
      cases e2
      exact ho
  have hLm : LmOk X.prog X.w X.K X.mg X.base (k + 1) f (lamL f c' (X.env.qual ++ "<lambda>") of_ Lc) l vs M Rc Zc := by
    rw [← hof]
    exact lmOk_of S C norecC (hbind _ _ _ _ _) hl hM fun A outer s H E hr => hbody f c' _ A outer s H E hr
  refine run_told (L := (f, of_) :: Lc) Fn (hr.mono hj) I2' inL' freL' (fun b o e hb => ?_) (fun b o e => Heap.get?_none_of_le (Nat.le_trans I.ok.bsz (hge b o e))) (us := [.ref f, u2]) (vs := [.ref f, v2]) (.cons rfl (.cons rv2 .nil)) ?_
  · rcases List.mem_cons.mp (I2'.stkSub b hb) with z | z
    · rcases hlk b o e with ⟨rfl, rfl⟩ | h
      · exact fnL z
      · obtain ⟨_, y, hy, hc⟩ := cellD b o h
        exact I2'.cne y b hc z
    · obtain ⟨_, o', e', _⟩ := I.ok.funs.mem z
      exact absurd (Heap.lt_size e') (Nat.not_lt.mpr (hge b o e))
  · refine ⟨_, M, [.fn f (lamL f c' (X.env.qual ++ "<lambda>") of_ Lc) l vs, d2], _, _, sF, ⟨_, _, rfl, ⟨rfl, fun p hp => ?_, Reps.mono sb02 _ hrl⟩, Reps.one (Rep.mono ((ups_mono fF2).trans sbF) _ r2)⟩, hw f _ vs hLm, fun d' M' v F' H' ⟨e1, e2⟩ hd gg s' rv => ?_, fun _ _ _ _ _ _ _ _ z => z.elim⟩
    · unfold lamL at hp
      rcases List.mem_cons.mp hp with rfl | hp
      · show upd _ _ _ f = _
        rw [upd_ne hfc, ups_on hlkf]
      · rcases List.mem_cons.mp hp with rfl | hp
        · exact upd_same
        · obtain ⟨p0, hp0, rfl⟩ := List.mem_map.mp hp
          have hn : p0.1 ≠ c' := fun z => by
            obtain ⟨o, ho⟩ := mem_on hp0
            have := freL _ _ ho
            rw [z, hcd2] at this
            cases this
          show upd _ _ _ p0.1 = _
          rw [upd_ne hn, ups_on (hlkm p0 hp0)]
    · subst e1 e2
      have tH' : Trk ((f, of_) :: Lc) H' := fun b o e => gg.ex b _ (fun z => by
        obtain ⟨p, hp, e'⟩ := List.mem_map.mp z
        exact MuOk.there (st2.mt p hp) (by rw [e']; exact freL' b o e)) (ups_on e)
      have tF' : Trk ((f, of_) :: Lc) F' := fun b o e => gg.sub b _ (by
        rw [upd_ne (fun z => by
          have := freL' b o e
          rw [z, hcd2] at this
          cases this), ups_on e])
      refine ⟨tH', q v _ _ (g1.trans' (g2.trans' (gr_out gg ((ups_mono fF2).trans sbF) freL' fF2 fun a xs e => ?_))) (LM.Sta.dels s' tF' norec hM) rv⟩
      by_cases h : a = c'
      · rw [h, upd_same] at e
        have e2 : HO.ext _ = HO.lst xs := Option.some.inj e
        cases e2
      · rw [upd_ne h] at e
        rcases on_off a ((f, of_) :: Lc) with ⟨o', h'⟩ | h'
        · rw [ups_on h'] at e
          exact absurd (Option.some.inj e) LM.exo_lst
        · rw [ups_off h'] at e
          exact e
end
end LM

set_option Elab.async false
set_option linter.all false
set_option maxRecDepth 100000
set_option maxHeartbeats 4000000
/-! HT1: walks, unpacking, list comprehensions where an exception is handled. -/
namespace HTN
open PySem PySem.Spec PyProof.Rows L2 HotX L2H
section
variable {prog : Program} {w : World} {A : Around} {E : Value → Shared → Prop} {s : Shared}
theorem list_end_hot {it l x1 : Addr} {i : Nat} {items : Array Value} {Q : Option Value → Shared → Prop} (hot : HotAt A x1 s.heap) (hne : x1 ≠ it) (hit : s.heap.IsListIter it l i) (hl : s.heap.IsList l items) (hx : items[i]? = none)
    (hQ : ∀ h', Heap.ExtBut it s.heap h' → Q none { s with heap := h' }) : wpAny (model prog w) A (pyNext (.ref it)) Q E s := by
  obtain ⟨hh, o1, vs1, h1, d1, c1⟩ := hot
  obtain ⟨o, ho, hc, hd⟩ := id hit
  obtain ⟨ol, hol, _, nl, hdl⟩ := hl
  unfold pyNext
  refine wpAny_bind (wpAny_attempt (wpAny_callSpecial?_slot (name := Str.ofString "__next__") hit.typeIs slot_listiter_next
    (wpAny_call_entry slot_listiter_next hit.typeIs entry_listiter_next ?_ (args_listiter_next _))))
  show wpAny _ _ (field (.ref it) 0 >>= _) _ _ s
  refine wpAny_bind (wpAny_field ho hd (x := .ref l) rfl ?_)
  show wpAny _ _ (if (Value.ref l == Value.none) = true then _ else _) _ _ s
  rw [if_neg (show ¬ ((Value.ref l == Value.none) = true) from Bool.false_ne_true)]
  show wpAny _ _ (field (.ref it) 1 >>= _) _ _ s
  refine wpAny_bind (wpAny_field ho hd (x := .int i 0) rfl ?_)
  show wpAny _ _ (seqItems? (.ref l) >>= _) _ _ s
  refine wpAny_bind (wpAny_seqItems hol hdl ?_)
  simp only [Int.toNat_natCast, hx]
  refine wpAny_bind (wpAny_rule (wpAny_bind (wpAny_setField ho hd (by simp) ?_)))
  have h1' : (s.heap.update it (Obj.mapFields (·.setIfInBounds 0 Value.none))).get? x1 = some o1 := by
    rw [Heap.get?_update_other _ _ (Ne.symm hne)]
    exact h1
  show wpAny _ _ (newExc (.type "StopIteration") [] >>= _) _ _ _
  refine wpAny_bind ?_
  simp only [newExc, newTuple]
  refine wpAny_bind (wpAny_newObj_type ?_ (by size_fits))
  refine wpAny_bind (m := firstArgMember _ _) (wpAny_of_eq (a := Value.none) (by first | rfl | (simp only [firstArgMember]; rfl)) ?_)
  refine wpAny_newObj_type ?_ (by size_fits)
  refine raiseNew_hot ⟨hh, o1, vs1, Heap.get?_push_of_some _ (Heap.get?_push_of_some _ h1'), d1, c1⟩ (Nat.ne_of_lt (Heap.lt_size (Heap.get?_push_of_some _ h1'))) (Heap.get?_push_size _ rfl) rfl (by first | (simp; done) | (simp; omega)) ?_
  refine wpAny_bind (wpAny_isInstance (T := "StopIteration") (b := true) ⟨_, Heap.get?_update_self _ (Heap.get?_push_size _ rfl) rfl, rfl⟩ isSubtype_stop ?_)
  refine wpAny_pure (hQ _ fun b o hb e => ?_)
  have e2 : (s.heap.update it (Obj.mapFields (·.setIfInBounds 0 Value.none))).get? b = some o := by
    rw [Heap.get?_update_other _ _ (Ne.symm hb)]
    exact e
  rw [Heap.get?_update_other _ _ (Nat.ne_of_gt (Heap.lt_size (Heap.get?_push_of_some _ e2)))]
  exact Heap.get?_push_of_some _ (Heap.get?_push_of_some _ e2)
theorem tup_end_hot {it t x1 : Addr} {i : Nat} {items : Array Value} {Q : Option Value → Shared → Prop} (hot : HotAt A x1 s.heap) (hne : x1 ≠ it) (hit : IsTupIter s.heap it t i) (ht : IsTup s.heap t items) (hx : items[i]? = none)
    (hQ : ∀ h', Heap.ExtBut it s.heap h' → Q none { s with heap := h' }) : wpAny (model prog w) A (pyNext (.ref it)) Q E s := by
  obtain ⟨hh, o1, vs1, h1, d1, c1⟩ := hot
  obtain ⟨o, ho, hc, hd⟩ := id hit
  obtain ⟨ol, hol, _, nl, hdl⟩ := ht
  unfold pyNext
  refine wpAny_bind (wpAny_attempt (wpAny_callSpecial?_slot (name := Str.ofString "__next__") hit.typeIs slot_tupleiter_next
    (wpAny_call_entry slot_tupleiter_next hit.typeIs entry_tupleiter_next ?_ (args_tupleiter_next _))))
  show wpAny _ _ (field (.ref it) 0 >>= _) _ _ s
  refine wpAny_bind (wpAny_field ho hd (x := .ref t) rfl ?_)
  show wpAny _ _ (if (Value.ref t == Value.none) = true then _ else _) _ _ s
  rw [if_neg (show ¬ ((Value.ref t == Value.none) = true) from Bool.false_ne_true)]
  show wpAny _ _ (field (.ref it) 1 >>= _) _ _ s
  refine wpAny_bind (wpAny_field ho hd (x := .int i 0) rfl ?_)
  show wpAny _ _ (seqItems? (.ref t) >>= _) _ _ s
  refine wpAny_bind (wpAny_seqItems hol hdl ?_)
  simp only [Int.toNat_natCast, hx]
  refine wpAny_bind (wpAny_rule (wpAny_bind (wpAny_setField ho hd (by simp) ?_)))
  have h1' : (s.heap.update it (Obj.mapFields (·.setIfInBounds 0 Value.none))).get? x1 = some o1 := by
    rw [Heap.get?_update_other _ _ (Ne.symm hne)]
    exact h1
  show wpAny _ _ (newExc (.type "StopIteration") [] >>= _) _ _ _
  refine wpAny_bind ?_
  simp only [newExc, newTuple]
  refine wpAny_bind (wpAny_newObj_type ?_ (by size_fits))
  refine wpAny_bind (m := firstArgMember _ _) (wpAny_of_eq (a := Value.none) (by first | rfl | (simp only [firstArgMember]; rfl)) ?_)
  refine wpAny_newObj_type ?_ (by size_fits)
  refine raiseNew_hot ⟨hh, o1, vs1, Heap.get?_push_of_some _ (Heap.get?_push_of_some _ h1'), d1, c1⟩ (Nat.ne_of_lt (Heap.lt_size (Heap.get?_push_of_some _ h1'))) (Heap.get?_push_size _ rfl) rfl (by first | (simp; done) | (simp; omega)) ?_
  refine wpAny_bind (wpAny_isInstance (T := "StopIteration") (b := true) ⟨_, Heap.get?_update_self _ (Heap.get?_push_size _ rfl) rfl, rfl⟩ isSubtype_stop ?_)
  refine wpAny_pure (hQ _ fun b o hb e => ?_)
  have e2 : (s.heap.update it (Obj.mapFields (·.setIfInBounds 0 Value.none))).get? b = some o := by
    rw [Heap.get?_update_other _ _ (Ne.symm hb)]
    exact e
  rw [Heap.get?_update_other _ _ (Nat.ne_of_gt (Heap.lt_size (Heap.get?_push_of_some _ e2)))]
  exact Heap.get?_push_of_some _ (Heap.get?_push_of_some _ e2)
theorem hot_keep {x1 : Addr} {h h' : Heap} (hot : HotAt A x1 h) (k : ∀ o, h.get? x1 = some o → h'.get? x1 = some o) : HotAt A x1 h' := by
  obtain ⟨hh, o1, vs1, h1, d1, c1⟩ := hot
  exact ⟨hh, o1, vs1, k _ h1, d1, c1⟩
theorem unpackItems_hot {t x1 : Addr} {items : Array Value} {Q : List Value → Shared → Prop} (hot : HotAt A x1 s.heap) (ht : IsTup s.heap t items)
    (hQ : ∀ h', Heap.ExtBut s.heap.objs.size s.heap h' → Q items.toList { s with heap := h' }) : wpAny (model prog w) A (unpackItems (.ref t) items.size none) Q E s := by
  have hlt : t ≠ s.heap.objs.size := by obtain ⟨o, ho, _⟩ := ht; exact Nat.ne_of_lt (Heap.lt_size ho)
  have hx1 : x1 ≠ s.heap.objs.size := by obtain ⟨_, o, _, ho, _⟩ := hot; exact Nat.ne_of_lt (Heap.lt_size ho)
  unfold unpackItems
  refine wpAny_bind ?_
  · unfold notIterableAtAll
    refine wpAny_bind (wpAny_specialOf ht.typeIs slot_tuple_iter.lookup ?_)
    refine wpAny_pure ?_
    simp only [Bool.false_eq_true, if_false]
    refine wpAny_bind (wpAny_holding (iter_tuple ht ?_))
    refine wpAny_bind (wpAny_holding (draw_tuple hlt items.size 0 _ _ ⟨_, Heap.get?_push_size _ rfl, rfl, rfl⟩ (ht.push _) (by omega) fun h₁ hit₁ hs₁ => ?_))
    have hall : List.take items.size (List.drop 0 items.toList) = items.toList := by
      rw [List.drop_zero]; exact List.take_of_length_le (by simp)
    rw [hall]
    rw [if_neg (by simp)]
    have ht₁ : IsTup h₁ t items := (ht.push _).extBut hs₁.extBut hlt
    have hot₁ : HotAt A x1 h₁ := hot_keep hot fun o e => hs₁.extBut x1 o hx1 (Heap.get?_push_of_some _ e)
    refine wpAny_bind (wpAny_holding (tup_end_hot hot₁ hx1 hit₁ ht₁ (by simp) fun h₂ he₂ => ?_))
    simp only [Option.isSome_none, Bool.false_eq_true, if_false]
    refine wpAny_pure (hQ h₂ fun b o hb e => he₂ b o hb (hs₁.extBut b o hb (Heap.get?_push_of_some _ e)))
theorem assign_Tuple_hot {env : Env} {elts : List Expr} {x1} {pos : Pos} {t y1 : Addr} {items : Array Value} {Q : Unit → Shared → Prop} (hot : HotAt A y1 s.heap) (ht : IsTup s.heap t items)
    (hn : (assignEach elts env).length = items.size) (hstar : (assignEach elts env).findIdx? (·.1) = none)
    (h : ∀ h', Heap.ExtBut s.heap.objs.size s.heap h' → wpAny (model prog w) A (assignInOrder ((assignEach elts env).map (·.2)) items.toList) Q E { s with heap := h' }) :
    wpAny (model prog w) A (assign (.Tuple elts x1 pos) env (.ref t)) Q E s := by
  rw [assign_Tuple]
  refine wpAny_bind (wpAny_standAt ?_)
  unfold unpack
  rw [hn, hstar]
  exact wpAny_bind (wpAny_holding (unpackItems_hot hot ht h))
end
section
variable {X : Cx} {pos : Pos}
theorem pg_tupH {es : List Expr} {k : Nat} {t : TGs} {n : Nat} (hc : HotC X) (h : PGs X es t)
    (hn : (assignEach es X.env).length = n := by rfl) (hst : (assignEach es X.env).findIdx? (·.1) = none := by rfl) : PG X (.Tuple es k pos) (gTup X.K n t) := by
  refine ⟨fun pins s σ H v u Q I r hw => ?_⟩
  obtain ⟨a, xs, e1, hq, hl, hw⟩ := hw
  subst e1
  cases r
  obtain ⟨its, rv, ht, hz⟩ := I.tuple hq
  obtain ⟨x1, hot⟩ := hc.at I
  refine assign_Tuple_hot hot ht (by simp [hn, ← hl, rv.length]) hst fun h' hx => ?_
  have I1 : Inv X pins σ H { s with heap := h' } := I.kept (t' := s.toks) fun b o e => hx b o (Nat.ne_of_lt (Heap.lt_size e)) e
  exact h.run pins _ σ H xs _ Q I1 (by simpa using rv) hw
theorem turn_listH {P : Program} {w : World} {K : PySem.W.Frag} {tg : Expr} (a it : Addr) : TurnH P w K tg (Itl K a) [it] it (fun i h => h.IsListIter it a i) where
  mem := by simp
  obj := fun i h st b hb => by
    have e : b = it := by simpa using hb
    subst e
    obtain ⟨o, e, c, d⟩ := st
    exact ⟨o, e, fun v z => by rw [d] at z; cases z⟩
  keep := fun i h h' st k => st.at fun o e => k it (by simp) o e
  item := by
    intro X hP hw hK hc i pins s σ H E I hf st hg
    subst hP hw hK
    obtain ⟨xs, x, hq, hx⟩ := hg
    obtain ⟨its, rv, p, hz⟩ := I.list hq
    obtain ⟨u, hu, ru⟩ := rv.get hx
    obtain ⟨f0, f1, f2, f3, f4, f5⟩ := hf it (by simp)
    refine wpAny_pyNext_list_item st p.isList (x := u) (by simpa using hu) fun h' st' sb => ?_
    have I1 : Inv X pins σ H { s with heap := h' } := I.turned (t' := s.toks) (fun b o hb e => (sb.2 b hb).trans e) f0 f1 f3 f4 f5
    obtain ⟨o, e, c, d⟩ := id st'
    exact ⟨u, rfl, go_of (s := { s with heap := h' }) e c d (by decide) ⟨x, H, I1, ru, ⟨rfl, fun ys hy => by rw [I.list_inj hy hq]; exact hx⟩, st', fun b hb => (hf b hb).1⟩⟩
  done := by
    intro X hP hw hK hc i pins s σ H E I hf st hg
    subst hP hw hK
    obtain ⟨xs, hq, hx⟩ := hg
    obtain ⟨its, rv, p, hz⟩ := I.list hq
    obtain ⟨f0, f1, f2, f3, f4, f5⟩ := hf it (by simp)
    have hl := rv.length
    obtain ⟨p1, ⟨hh, v1, e1, c1⟩, hp1⟩ := hc
    have P1 := I.pin p1 (List.mem_append_left _ hp1)
    have hne : p1.1 ≠ it := f5 p1 (List.mem_append_left _ hp1)
    exact list_end_hot ⟨hh, p1.2, v1, P1.1, e1, c1⟩ hne st p.isList (by simp; omega) fun h' eb => ⟨rfl, I.turned (t' := s.toks) (fun b o hb e => eb b o hb e) f0 f1 f3 f4 f5⟩
  self := fun _ _ _ _ _ st h => wpAny_pyIter_listiter st h
theorem pi_listH {tg l : Expr} {tl : TE} (hl : PE X l tl) : PIH X tg l (iList X.K tl) := by
  refine ⟨fun pins s σ H R I h => ?_⟩
  refine thn (hl.run pins s σ H _ I h) fun v s1 ⟨x, H1, I1, r1, q1⟩ => ?_
  obtain ⟨a, e, ⟨xs, hq⟩, q⟩ := q1
  subst e
  cases r1
  obtain ⟨its, rv, p, hz⟩ := I1.list hq
  refine wpAny_pyIter_list p.isList ?_
  refine ⟨s1.heap.objs.size, [s1.heap.objs.size], _, _, H1, rfl, I1.kept (t' := s1.toks) fun b o e => Heap.get?_push_of_some _ e, turn_listH a _, ⟨_, Heap.get?_push_size _ rfl, rfl, rfl⟩, fun b hb => ?_, q⟩
  have e : b = s1.heap.objs.size := by simpa using hb
  subst e
  exact I1.fpOk (Nat.le_refl _) (I1.hok.fresh (Nat.le_refl _))
/-- the context of a block, the handled exception still pinned -/
abbrev _root_.L2.Cx.blkH (X : Cx) (s : Shared) (H : Hp) (scope : Scope) (cenv : Env) (fp : List Addr) : Cx := { X with s_0 := s, H_0 := H, env := cenv, outer := X.stack, ex := fp, fn := fun x => scope.names.lookup x == some .cell, xe := fun _ _ => False }
theorem block_startH {pins : List (Addr × Obj)} {σ : L2.St} {H : Hp} {s : Shared} {scope : Scope} {own : List (Str × Nat)} {fp : List Addr} (I : Inv X pins σ H s) (ok : BlkOk X.N X.env.scope scope own) (hN : X.N.Nodup) (hfp : ∀ b ∈ fp, FpOk X pins H b ∧ b < s.heap.objs.size) :
    Inv (X.blkH s H scope (compEnvC scope (cellsFrom (s.heap.objs.size + 1) scope.names (cloFrom X.env.cells scope.names [])) s.heap.objs.size X.env) fp) [] (wipe σ (own.map (·.2))) H { s with heap := pushCells (s.heap.push { cls := .type "dict", data := .dict #[] }) scope.names } := by
  have I4 := block_start I ok hN hfp
  have kp : ∀ b o, s.heap.get? b = some o → (pushCells (s.heap.push { cls := .type "dict", data := .dict #[] }) scope.names).get? b = some o := fun b o e => pushCells_keeps _ _ _ _ (Heap.get?_push_of_some _ e)
  refine ⟨⟨I4.ok.mod, I4.ok.kind, I4.ok.glob, I4.ok.blt, I4.ok.above, I4.ok.inj, I4.ok.has, I4.ok.cab, I4.ok.hd, I4.ok.frames, I4.ok.stk, I4.ok.exf, I4.ok.bs, I4.ok.bsz, I4.ok.noex, I4.ok.exfs, I4.ok.funs, I4.ok.frf⟩, I4.os, I4.bare, I4.base, I4.loc, I4.cell, I4.free, I4.freeC, fun p hp => ?_, I4.hok, I4.len⟩
  have hp : p ∈ X.pn := by simpa using hp
  obtain ⟨e, n, nl, nf, nc⟩ := I.pin p (List.mem_append_left _ hp)
  refine ⟨kp _ _ e, n, ?_, fun z => ?_, nc⟩
  · show p.1 ≠ s.heap.objs.size
    exact Nat.ne_of_lt (Heap.lt_size e)
  · rcases List.mem_cons.mp (I.stkSub p.1 z) with h | h
    · exact nl h
    · exact nf h
end
section
variable {X : Cx}
theorem lc_coreH {pins : List (Addr × Obj)} {s : Shared} {σ : L2.St} {H : Hp} {Q : VK} {elt tg iter : Expr} {ifs : List Expr} {scope : Scope} {own : List (Str × Nat)} {pos pos' : Pos} {wi : TI} {g : TG} {tt : TT} {te : TE} {use : Option (Value → Sem Unit)} {Qf : Value → Shared → Prop}
    (hc : HotC X) (hN : X.N.Nodup) (I : Inv X pins σ H s) (hi : PIH X tg iter wi) (ok : BlkOk X.N X.env.scope scope own)
    (hg : ∀ (s : Shared) (H : Hp) (C : Addr) (cl : List (Str × Addr)) (fp : List Addr), PG (X.blkH s H scope (compEnvC scope cl C X.env) fp) tg g) (ht : ∀ (s : Shared) (H : Hp) (C : Addr) (cl : List (Str × Addr)) (fp : List Addr), PTs (X.blkH s H scope (compEnvC scope cl C X.env) fp) ifs tt)
    (he : ∀ (s : Shared) (H : Hp) (C : Addr) (cl : List (Str × Addr)) (fp : List Addr), PE (X.blkH s H scope (compEnvC scope cl C X.env) fp) elt te) (hs : ∀ x, foldedSetIterable iter X.env x = pure x)
    (h : tLc wi g tt te (own.map (·.2)) σ H Q)
    (hRR : ∀ D C s' m H', Inv X pins σ H' s' → Q (.ref D) H' → s'.heap.Ns C m → FpOk X pins H' C → compPost (model X.prog X.w) X.A X.xe use Qf (.ref D) C (.ok .next) s') :
    wpAny (model X.prog X.w) X.A (comprehension (.ListComp elt [⟨tg, iter, ifs, 0⟩] scope pos) scope X.env pos' (newList []) false (eval iter X.env) use) Qf X.xe s := by
  have hfree : ∀ y ∈ scope.names, y.2 = .free → ∃ c, X.env.cells.lookup y.1 = some c := fun y hy e => by
    rcases ok.free y hy e with k | k
    · exact I.ok.has _ (.inl k)
    · exact I.ok.has _ (.inr k)
  refine wpAny_comprehension_free (use := use) rfl hs (closure_ok hfree) ok.kind (fun y hy e => by rw [ok.uniq y hy, e])
    (thn (hi.run pins s σ H _ I h) fun xv s1 hx => thn hx fun itv s2 h2 => ?_)
  obtain ⟨it, fp, tn, J, H2, e, I2, T, st2, f2, q⟩ := h2
  subst e
  refine wpAny_newObj_type (newEnv_comp ?_) (by show 0 ≤ sizeLine; decide)
  generalize hD : s2.heap.objs.size = D
  have hDn : H2 D = none := I2.hok.fresh (Nat.le_of_eq hD)
  obtain ⟨W, ⟨m0, w0⟩, turn⟩ := q D hDn
  -- the new list
  generalize hs3 : ({ s2 with heap := s2.heap.push { cls := .type "list", data := .seq ([] : List Value).toArray } } : Shared) = s3
  have I3 : Inv X pins σ (upd H2 D (.lst [])) s3 := by
    rw [← hs3]
    refine I2.laid (t' := s2.toks) (fun b o e => Heap.get?_push_of_some _ e) (Nat.le_of_eq hD) ⟨Nat.zero_le _, [], 0, .nil, ?_⟩
    rw [← hD]
    exact Heap.get?_push_size _ rfl
  have h3 : s3.heap = s2.heap.push { cls := .type "list", data := .seq ([] : List Value).toArray } := by rw [← hs3]
  have sz : ∀ b ∈ fp, b < s2.heap.objs.size := fun b hb => by
    obtain ⟨o, e, _⟩ := T.obj _ _ st2 b hb
    exact Heap.lt_size e
  have f3 : ∀ b ∈ fp, FpOk X pins (upd H2 D (.lst [])) b ∧ b < s3.heap.objs.size := fun b hb => by
    have hlt := sz b hb
    refine ⟨⟨?_, (f2 b hb).2⟩, by rw [h3, Heap.size_push]; exact Nat.lt_succ_of_lt hlt⟩
    rw [upd_ne (by rw [← hD]; exact Nat.ne_of_lt hlt)]
    exact (f2 b hb).1
  have st3 : tn 0 s3.heap := T.keep _ _ _ st2 fun b _ o e => by rw [h3]; exact Heap.get?_push_of_some _ e
  have I4 := block_startH I3 ok hN f3
  have pg := hg s3 (upd H2 D (.lst [])) s3.heap.objs.size (cellsFrom (s3.heap.objs.size + 1) scope.names (cloFrom X.env.cells scope.names [])) fp
  have pt := ht s3 (upd H2 D (.lst [])) s3.heap.objs.size (cellsFrom (s3.heap.objs.size + 1) scope.names (cloFrom X.env.cells scope.names [])) fp
  have pe := he s3 (upd H2 D (.lst [])) s3.heap.objs.size (cellsFrom (s3.heap.objs.size + 1) scope.names (cloFrom X.env.cells scope.names [])) fp
  show codeAny _ _ (.compStart (.ListComp elt [⟨tg, iter, ifs, 0⟩] scope pos) 0 (.ref it) (.ref D) (compEnvC scope (cellsFrom (s3.heap.objs.size + 1) scope.names (cloFrom X.env.cells scope.names [])) s3.heap.objs.size X.env)) (compPost (model X.prog X.w) X.A X.xe use Qf (.ref D) s3.heap.objs.size) { s3 with heap := pushCells (s3.heap.push { cls := .type "dict", data := .dict #[] }) scope.names }
  have nfp : ∀ b ∈ fp, (upd H2 D (.lst [])) b = none := fun b hb => (f3 b hb).1.1
  generalize hce : compEnvC scope (cellsFrom (s3.heap.objs.size + 1) scope.names (cloFrom X.env.cells scope.names [])) s3.heap.objs.size X.env = ce at I4 pg pt pe ⊢
  have cL : ce.locals = s3.heap.objs.size := by subst hce; rfl
  generalize hH3 : upd H2 D (.lst []) = H3 at I3 I4 pg pt pe w0 nfp f3
  generalize hs4 : ({ s3 with heap := pushCells (s3.heap.push { cls := .type "dict", data := .dict #[] }) scope.names } : Shared) = s4 at I4 ⊢
  have st4 : tn 0 s4.heap := T.keep _ _ _ st3 fun b _ o e => by rw [← hs4]; exact pushCells_keeps _ _ _ _ (Heap.get?_push_of_some _ e)
  have hpn : ∀ p ∈ X.pn, ∀ b ∈ fp, p.1 ≠ b := fun p hp b hb => (f3 b hb).1.2.2.2.2.2 p (List.mem_append_left _ hp)
  have hcB : HotC (X.blkH s3 H3 scope ce fp) := hc
  have stat : ∀ {σ' : L2.St} {H' : Hp} {s' : Shared}, Inv (X.blkH s3 H3 scope ce fp) [] σ' H' s' → (∀ b ∈ fp, H' b = none) → ∀ b ∈ fp, FpOk (X.blkH s3 H3 scope ce fp) [] H' b := fun {σ' H' s'} I' hn b hb =>
    ⟨hn b hb, (I'.ok.exf b hb).1, I'.ok.exfs b hb, .inl hb, fun x c e => (I'.ok.exf b hb).2 x c e, fun p hp => (hpn p (by simpa using hp)) b hb⟩
  have loop : codeAny (model X.prog X.w) X.A (.compLoop (.ListComp elt [⟨tg, iter, ifs, 0⟩] scope pos) 0 (.ref it) (.ref D) ce) (compPost (model X.prog X.w) X.A X.xe use Qf (.ref D) s3.heap.objs.size) s4 := by
    refine compLoop_any (fun n s' => ∃ i H', Inv (X.blkH s3 H3 scope ce fp) [] (wipe σ (own.map (·.2))) H' s' ∧ tn i s'.heap ∧ (∀ b ∈ fp, H' b = none) ∧ W i n H') ?_ m0 ⟨0, H3, I4, st4, nfp, w0⟩
    rintro n s5 ⟨i, H5, I5, st5, n5, w5⟩
    rcases turn i n H5 w5 with ⟨stop, qq⟩ | ⟨go, Nx, hNx, step⟩
    · have td := T.done (X.blkH s3 H3 scope ce fp) rfl rfl rfl hcB i [] s5 _ H5 (fun _ _ => False) I5 (stat I5 n5) st5 stop
      refine thnF td fun r s6 ⟨hr, I6⟩ => ?_
      subst hr
      -- back in the def's context
      have I7 : Inv X pins σ H5 s6 := I3.call' (ch := fp) I6.os I6.base I6.hok I6.bare fun b hb => ⟨(f3 b hb).1.2.2.2.1, (f3 b hb).1.2.1, (f3 b hb).1.2.2.2.2.1, (f3 b hb).1.2.2.2.2.2⟩
      have nC : H5 s3.heap.objs.size = none := by
        have z : H5 ce.locals = none := I6.free
        rw [cL] at z
        exact z
      obtain ⟨m, hn, _⟩ := I6.loc
      have hn : s6.heap.Ns ce.locals m := hn
      rw [cL] at hn
      exact hRR D s3.heap.objs.size s6 m H5 I7 qq hn (I3.fpOk (Nat.le_refl _) nC)
    · have ti := T.item (X.blkH s3 H3 scope ce fp) rfl rfl rfl hcB i [] s5 _ H5 (fun _ _ => False) I5 (stat I5 n5) st5 go
      refine thnF ti fun r s6 ⟨u, hr, h6⟩ => ?_
      subst hr
      refine thnF h6 fun _ s7 ⟨x, H7, I7, r7, y7, st7, n7⟩ => ?_
      have I7' := I7.pinned (stat I7 n7) (T.obj _ _ st7)
      refine thnF (pg.run _ s7 _ H7 x u _ I7' r7 (step x H7 y7)) fun _ s8 ⟨σ8, H8, I8, hw8, q8⟩ => ?_
      refine thnF (pt.run _ s8 σ8 H8 _ I8 q8) fun b s9 ⟨H9, I9, q9⟩ => ?_
      -- the turn's end
      have fin : ∀ {s' : Shared} {H' : Hp}, Inv (X.blkH s3 H3 scope ce fp) ([] ++ pinsAt fp s7.heap) σ8 H' s' → Nx H' → ∃ m, m < n ∧ ∃ i H', Inv (X.blkH s3 H3 scope ce fp) [] (wipe σ (own.map (·.2))) H' s' ∧ tn i s'.heap ∧ (∀ b ∈ fp, H' b = none) ∧ W i m H' := fun {s' H'} I' nx => by
        obtain ⟨m', hm, w'⟩ := hNx H' nx
        have pin' : ∀ b ∈ fp, ∀ o, s7.heap.get? b = some o → s'.heap.get? b = some o ∧ H' b = none := fun b hb o e =>
          let z := I'.pin (b, o) (List.mem_append_right _ (List.mem_append_right _ (mem_pinsAt hb e)))
          ⟨z.1, z.2.1⟩
        have hl : (wipe σ (own.map (·.2))).length = σ8.length := by rw [← hw8, wipe_length]
        refine ⟨m', hm, i + 1, H', (I'.unpinned (pins := [])).weak hl (fun j v e => ?_), T.keep _ _ _ st7 fun b hb o e => (pin' b hb o e).1, fun b hb => ?_, w'⟩
        · rw [← hw8] at e
          exact (wipe_some e).1
        · obtain ⟨o, e, _⟩ := T.obj _ _ st7 b hb
          exact (pin' b hb o e).2
      cases b with
      | false =>
        simp only [Bool.false_eq_true, if_false] at q9 ⊢
        exact fin I9 q9
      | true =>
        simp only [if_true] at q9 ⊢
        refine thnF (pe.run _ s9 σ8 H9 _ I9 q9) fun z s10 ⟨yv, H10, I10, r10, acc, hD10, hz10, nx⟩ => ?_
        exact app_ok (X := X.blkH s3 H3 scope ce fp) I10 hD10 hz10 r10 fun s11 I11 => fin I11 nx
  exact codeAny_compStart_list loop (T.self X.A 0 _ _ _ st4 loop)

theorem pe_lcH {elt tg iter : Expr} {ifs : List Expr} {scope : Scope} {own : List (Str × Nat)} {pos : Pos} {wi : TI} {g : TG} {tt : TT} {te : TE} (hc : HotC X) (hN : X.N.Nodup) (hi : PIH X tg iter wi) (ok : BlkOk X.N X.env.scope scope own)
    (hg : ∀ (s : Shared) (H : Hp) (C : Addr) (cl : List (Str × Addr)) (fp : List Addr), PG (X.blkH s H scope (compEnvC scope cl C X.env) fp) tg g) (ht : ∀ (s : Shared) (H : Hp) (C : Addr) (cl : List (Str × Addr)) (fp : List Addr), PTs (X.blkH s H scope (compEnvC scope cl C X.env) fp) ifs tt)
    (he : ∀ (s : Shared) (H : Hp) (C : Addr) (cl : List (Str × Addr)) (fp : List Addr), PE (X.blkH s H scope (compEnvC scope cl C X.env) fp) elt te) (hs : ∀ x, foldedSetIterable iter X.env x = pure x := by intro _; rfl) :
    PE X (.ListComp elt [⟨tg, iter, ifs, 0⟩] scope pos) (tLc wi g tt te (own.map (·.2))) := by
  refine ⟨fun pins s σ H Q I h => ?_⟩
  rw [eval_ListComp]
  refine lc_coreH hc hN I hi ok hg ht he hs h fun D C s' m H' I' q hn f => ⟨m, hn, fun h'' sb => ?_⟩
  obtain ⟨f0, f1, f2, f3, f4, f5⟩ := f
  exact ⟨.ref D, H', I'.turned (t' := s'.toks) (fun b o hb e => (sb.2 b hb).trans e) f0 f1 f3 f4 f5, rfl, q⟩
end
end HTN

set_option Elab.async false
set_option linter.all false
set_option maxRecDepth 100000
set_option maxHeartbeats 4000000
/-! CM: list comprehensions over data. -/
namespace HM
open PySem PySem.Spec PyProof.Rows L2

theorem wipe_get : ∀ (vs : List Nat) (σ : L2.St) (j : Nat), (wipe σ vs)[j]? = if j ∈ vs then (σ[j]?).map (fun _ => none) else σ[j]?
  | [], σ, j => by simp [wipe]
  | v :: vs, σ, j => by
    unfold wipe
    by_cases h : v = j
    · subst h
      rw [List.getElem?_set]
      simp only [List.mem_cons, true_or, if_true]
      by_cases hl : v < σ.length
      · have hl' : v < (wipe σ vs).length := by rw [wipe_length]; exact hl
        rw [if_pos hl', List.getElem?_eq_getElem hl]
        rfl
      · have hl' : ¬ v < (wipe σ vs).length := by rw [wipe_length]; exact hl
        rw [if_neg hl', List.getElem?_eq_none (by omega)]
        rfl
    · rw [List.getElem?_set_ne h, wipe_get vs σ j]
      have : (j ∈ v :: vs) ↔ j ∈ vs := by
        rw [List.mem_cons]
        exact ⟨fun z => z.elim (fun e => absurd e.symm h) id, .inr⟩
      simp only [this]
theorem wipe_set {σ : L2.St} {vs : List Nat} {i : Nat} {v : Option V} (h : i ∈ vs) : wipe (σ.set i v) vs = wipe σ vs := by
  apply List.ext_getElem?
  intro j
  rw [wipe_get, wipe_get]
  by_cases hj : i = j
  · subst hj
    rw [if_pos h, if_pos h, List.getElem?_set]
    by_cases hl : i < σ.length
    · rw [if_pos rfl, if_pos hl, List.getElem?_eq_getElem hl]
      rfl
    · rw [if_pos rfl, if_neg hl, List.getElem?_eq_none (by omega)]
  · rw [List.getElem?_set_ne hj]
theorem wipe_wipe {σ : L2.St} {vs : List Nat} : wipe (wipe σ vs) vs = wipe σ vs := by
  apply List.ext_getElem?
  intro j
  rw [wipe_get, wipe_get]
  split
  · cases σ[j]? <;> rfl
  · rfl
/-- the slots of a block's own names forgotten -/
def wipeD (G : List (Option Dt)) : List Nat → List (Option Dt)
  | [] => G
  | v :: vs => (wipeD G vs).set v none
theorem RepS.wipe {K : PySem.W.Frag} {F : Hp} {σ : L2.St} {G : List (Option Dt)} (r : RepS K F σ G) : ∀ vs : List Nat, RepS K F (L2.wipe σ vs) (wipeD G vs)
  | [] => r
  | v :: vs => by
    have h := RepS.wipe r vs
    refine ⟨by simp [L2.wipe, wipeD, h.len], fun j d' e => ?_⟩
    unfold L2.wipe
    unfold wipeD at e
    by_cases hj : v = j
    · subst hj
      by_cases hl : v < (wipeD G vs).length
      · rw [List.getElem?_set_self hl] at e
        cases e
      · rw [List.getElem?_eq_none (by simpa using hl)] at e
        cases e
    · rw [List.getElem?_set_ne hj] at e
      obtain ⟨v', h1, h2⟩ := h.get j d' e
      exact ⟨v', by rw [List.getElem?_set_ne hj]; exact h1, h2⟩

/-- a store into the block's own names -/
def GV (K : PySem.W.Frag) (g : TG) (vs : List Nat) (G : List (Option Dt)) (d : Dt) (G2 : List (Option Dt)) : Prop :=
  ∀ (v : V) (σ : L2.St) (F H : Hp) (Q : L2.St → Hp → Prop), RepS K F σ G → Sub F H → Rep K F d v → (∀ σ', RepS K F σ' G2 → L2.wipe σ' vs = L2.wipe σ vs → Q σ' H) → g v σ H Q
theorem off_stays {m : List Addr} {F H F' H' : Hp} {D : Addr} {xs : List V} (g : Gr m F H F' H') (sb : Sub F' H') (hD : D ∉ m) (h : H D = some (.lst xs)) (hF : F D = none) : F' D = none := by
  cases e : F' D with
  | none => rfl
  | some o =>
    have e2 := g.ex D _ hD h
    have e3 := sb D o e
    rw [e2] at e3
    cases e3
    rcases g.new D xs e hF with z | z
    · rw [z] at h
      cases h
    · exact absurd z hD
section
variable {K : PySem.W.Frag} {F H : Hp} {M : Mst} {D : Addr} {vs ws : List V}
theorem Sta.writeOff (s : Sta K F M H) (hF : F D = none) (hM : D ∉ dom M) (hD : H D = some (.lst ws)) : Sta K F M (upd H D (.lst vs)) := by
  refine ⟨fun a o e => ?_, fun p hp => MuOk.wr (fun z => hM (by rw [← z]; exact mem_dom hp)) hD (s.mt p hp), s.off, s.nd⟩
  rw [upd_ne (fun z => by rw [z, hF] at e; cases e)]
  exact s.sub a o e
theorem Sta.freezeOff (s : Sta K F M H) (hF : F D = none) (hM : D ∉ dom M) (hD : H D = some (.lst ws)) : Sta K (upd F D (.lst ws)) M H := by
  refine ⟨fun a o e => ?_, fun p hp => MuOk.ext (sub_upd hF) (fun _ _ e => e) (s.mt p hp), fun p hp => ?_, s.nd⟩
  · by_cases h : a = D
    · subst h
      rw [upd_same] at e
      cases e
      exact hD
    · rw [upd_ne h] at e
      exact s.sub a o e
  · rw [upd_ne (fun z => hM (by rw [← z]; exact mem_dom hp))]
    exact s.off p hp
end
/-- what a comprehension gives, by its readings -/
theorem lc_read {K : PySem.W.Frag} {wi : TI} {g : TG} {tt : TT} {te : TE} {vs : List Nat} {G : List (Option Dt)} {M M1 M' : Mst} {ds out : List Dt} (hd1 : dom M1 = dom M)
    (hi : ∀ (σ : L2.St) (F H : Hp) (R : It → Hp → Prop), RepS K F σ G → Sta K F M H → (∀ J F' H', Gr (dom M) F H F' H' → Sta K F' M1 H' → ItD K J F' ds → R J H') → wi σ H R)
    (I : Nat → Mst → List Dt → Prop) (h0 : I 0 M1 []) (hdom : ∀ i Mi acc, I i Mi acc → dom Mi = dom M ∧ acc.length ≤ 100000)
    (hs : ∀ (i : Nat) d Mi acc, ds[i]? = some d → I i Mi acc → ∃ G2 b Mt, GV K g vs (wipeD G vs) d G2 ∧ ET K tt G2 Mi b Mt ∧ (b = true → ∃ d' M2, EE K te G2 Mt d' M2 ∧ I (i + 1) M2 (acc ++ [d'])) ∧ (b = false → I (i + 1) Mt acc))
    (hd : ∀ Mn acc, I ds.length Mn acc → Mn = M' ∧ acc = out) (hM' : dom M' = dom M) : EE K (tLc wi g tt te vs) G M (.lst out) M' :=
  ⟨hM', fun σ F H Q r s q => hi σ F H _ r s fun J F1 H1 g1 s1 it D hD => by
    have hDM : D ∉ dom M := by
      have := s1.fresh hD
      rw [hd1] at this
      exact this
    refine ⟨fun i m H2 => m = ds.length - i ∧ i ≤ ds.length ∧ ∃ Mi acc accv F2, I i Mi acc ∧ Gr (dom M) F1 H1 F2 H2 ∧ Sta K F2 Mi H2 ∧ H2 D = some (.lst accv) ∧ Reps K F2 acc accv ∧ F2 D = none, ⟨ds.length, by simp, Nat.zero_le _, M1, [], [], F1, h0, gr_newM hD, ?_, upd_same, rfl, s1.free hD⟩, ?_⟩
    · refine ⟨fun a o e => ?_, fun p hp => MuOk.ext (Sub.refl _) (fun b u e => by rw [upd_ne (ne_of_none e hD)]; exact e) (s1.mt p hp), s1.off, s1.nd⟩
      rw [upd_ne (ne_of_none (s1.sub a o e) hD)]
      exact s1.sub a o e
    · rintro i m H2 ⟨rfl, hle, Mi, acc, accv, F2, hI, g2, s2, hDl, hacc, hFD⟩
      obtain ⟨dMi, lacc⟩ := hdom i Mi acc hI
      have K1 := it F2 H2 Mi g2.sub s2
      by_cases hlt : i < ds.length
      · right
        obtain ⟨d, hdi⟩ : ∃ d, ds[i]? = some d := ⟨ds[i], List.getElem?_eq_getElem hlt⟩
        obtain ⟨go, yl⟩ := K1.1 i d hdi
        obtain ⟨G2, b, Mt, hg, ht, hy, hn⟩ := hs i d Mi acc hdi hI
        refine ⟨go, fun H5 => ∃ Mi acc accv F2, I (i + 1) Mi acc ∧ Gr (dom M) F1 H1 F2 H5 ∧ Sta K F2 Mi H5 ∧ H5 D = some (.lst accv) ∧ Reps K F2 acc accv ∧ F2 D = none, fun H5 h5 => ⟨ds.length - (i + 1), by omega, rfl, by omega, h5⟩, fun x H3 hy3 => ?_⟩
        obtain ⟨F3, g3, s3, r3⟩ := yl x H3 hy3
        rw [dMi] at g3
        have rσ : RepS K F3 (wipe σ vs) (wipeD G vs) := (r.mono ((g1.sub.trans g2.sub).trans g3.sub)).wipe vs
        refine hg x (wipe σ vs) F3 H3 _ rσ s3.sub r3 fun σ2 rσ2 hw => ⟨by rw [hw, wipe_wipe], ht.2 σ2 F3 H3 _ rσ2 s3 fun F4 H4 g4 s4 => ?_⟩
        have dT : dom Mt = dom M := ht.1.trans dMi
        rw [dMi] at g4
        have g34 := (g2.trans' g3).trans' g4
        have hD3 := g3.ex D _ hDM hDl
        have hF3 := off_stays g3 s3.sub hDM hDl hFD
        have hD4 := g4.ex D _ hDM hD3
        have hF4 := off_stays g4 s4.sub hDM hD3 hF3
        cases b with
        | false =>
          simp only [Bool.false_eq_true, if_false]
          exact ⟨Mt, acc, accv, F4, hn rfl, g34, s4, hD4, Reps.mono (g3.sub.trans g4.sub) _ hacc, hF4⟩
        | true =>
          simp only [if_true]
          obtain ⟨d', M2, he, hI2⟩ := hy rfl
          refine he.2 σ2 F4 H4 _ (rσ2.mono g4.sub) s4 fun y F5 H5 g5 s5 r5 => ?_
          rw [dT] at g5
          have hD5 := g5.ex D _ hDM hD4
          have hF5 := off_stays g5 s5.sub hDM hD4 hF4
          have hM2 : D ∉ dom M2 := by rw [he.1, dT]; exact hDM
          have hacc5 : Reps K F5 acc accv := Reps.mono ((g3.sub.trans g4.sub).trans g5.sub) _ hacc
          refine ⟨accv, hD5, by rw [hacc5.len, sizeLine_eq]; omega, M2, acc ++ [d'], accv ++ [y], F5, hI2, ?_, s5.writeOff hF5 hM2 hD5, upd_same, hacc5.app (Reps.one r5), hF5⟩
          have g15 := g34.trans' g5
          refine ⟨fun a o ha e => ?_, g15.sub, g15.new, fun a ha e => ?_⟩
          · rw [upd_ne (ne_of_none e hD)]
            exact g15.ex a o ha e
          · by_cases h : a = D
            · rw [h, upd_same]
              simp
            · rw [upd_ne h]
              exact g15.old a ha e
      · left
        have hie : i = ds.length := by omega
        subst hie
        obtain ⟨e1, e2⟩ := hd Mi acc hI
        subst e1 e2
        have hMD : D ∉ dom Mi := by rw [dMi]; exact hDM
        have g02 := g1.trans' g2
        refine ⟨K1.2 _ (by omega), q _ (upd F2 D (.lst accv)) H2 ⟨g02.ex, g02.sub.trans (sub_upd hFD), fun a xs h h' => ?_, g02.old⟩ (s2.freezeOff hFD hMD hDl) ⟨D, accv, rfl, SqL.of upd_same, Reps.mono (sub_upd hFD) _ hacc⟩⟩
        by_cases ha : a = D
        · rw [ha]
          exact .inl (g1.free hD)
        · rw [upd_ne ha] at h
          exact g02.new a xs h h'⟩
end HM

set_option Elab.async false
set_option linter.all false
set_option maxRecDepth 100000
set_option maxHeartbeats 4000000
/-! CM2: the rules of list comprehensions. -/
namespace HM
open PySem PySem.Spec PyProof.Rows L2 HTN L2H
/-- the contexts of a block -/
abbrev Xb (X : Cx) (scope : Scope) (s : Shared) (H : Hp) (C : Addr) (cl : List (Str × Addr)) (fp : List Addr) : Cx := X.blk s H scope (compEnvC scope cl C X.env) fp
abbrev XbH (X : Cx) (scope : Scope) (s : Shared) (H : Hp) (C : Addr) (cl : List (Str × Addr)) (fp : List Addr) : Cx := X.blkH s H scope (compEnvC scope cl C X.env) fp
section
variable {X : Cx} {iter elt c : Expr} {scope : Scope} {G : List (Option Dt)} {M M1 M' : Mst} {ds out : List Dt} {pos px px2 py : Pos} {x y : Str} {d : Dt} {i i2 : Nat}
def gAll (X : Cx) (scope : Scope) (tg : Expr) : TG := fun v σ H Q => ∀ (s : Shared) (H' : Hp) (C : Addr) (cl : List (Str × Addr)) (fp : List Addr), wG (Xb X scope s H' C cl fp) tg v σ H Q
def eAll (X : Cx) (scope : Scope) (e : Expr) : TE := fun σ H Q => ∀ (s : Shared) (H' : Hp) (C : Addr) (cl : List (Str × Addr)) (fp : List Addr), wE (Xb X scope s H' C cl fp) e σ H Q
def tAll (X : Cx) (scope : Scope) (e : Expr) : TT := fun σ H Q => ∀ (s : Shared) (H' : Hp) (C : Addr) (cl : List (Str × Addr)) (fp : List Addr), wT (Xb X scope s H' C cl fp) e σ H Q
/-- x walks -/
theorem gv_nm (hN : X.N.Nodup) (hi : X.N[i]? = some x) (hx : ∀ s H C cl fp, Loc (Xb X scope s H C cl fp).env.scope x) (hf : ∀ s H C cl fp, (Xb X scope s H C cl fp).fn x = true ∨ (Xb X scope s H C cl fp).env.scope.names.lookup x = some .local) : GV X.K (gAll X scope (.Name x px)) [i] (wipeD G [i]) d (G.set i (some d)) :=
  fun v σ F H Q r sb rv q s H' C cl fp => w_g (X := Xb X scope s H' C cl fp) (pg_name hN hi (hx s H' C cl fp) (hf s H' C cl fp)) (q _ (by
    have := r.set rv i
    have e : (wipeD G [i]).set i (some d) = G.set i (some d) := by
      show (G.set i none).set i (some d) = _
      rw [List.set_set]
    rw [e] at this
    exact this) (wipe_set List.mem_cons_self))
/-- [elt for x in iter] -/
theorem ex_lcI (i : Nat) (hc : X.calm = true) (hN : X.N.Nodup) (hi : IX X (.Name x px) iter G M ds M1) (ok : BlkOk X.N X.env.scope scope [(x, i)]) (I : Nat → Mst → List Dt → Prop) (h0 : I 0 M1 []) (hdom : ∀ i Mi acc, I i Mi acc → dom Mi = dom M ∧ acc.length ≤ 100000)
    (hs : ∀ (j : Nat) d Mi acc, ds[j]? = some d → I j Mi acc → ∃ d' M2, (∀ s H C cl fp, EX (Xb X scope s H C cl fp) elt (G.set i (some d)) Mi d' M2) ∧ I (j + 1) M2 (acc ++ [d'])) (hd : ∀ Mn acc, I ds.length Mn acc → Mn = M' ∧ acc = out) (hM' : dom M' = dom M)
    (hx : ∀ s H C cl fp, Loc (Xb X scope s H C cl fp).env.scope x := by intro _ _ _ _ _; exact Or.inl rfl) (hf : ∀ s H C cl fp, (Xb X scope s H C cl fp).fn x = true ∨ (Xb X scope s H C cl fp).env.scope.names.lookup x = some .local := by intro _ _ _ _ _; exact Or.inr rfl)
    (hXi : X.N[i]? = some x := by rfl) (hsw : ∀ x, foldedSetIterable iter X.env x = pure x := by intro _; rfl) : EX X (.ListComp elt [⟨.Name x px, iter, [], 0⟩] scope pos) G M (.lst out) M' := by
  obtain ⟨hd1, wi, pi, hi⟩ := hi
  refine EE.of (w_e (pe_lc (own := [(x, i)]) (wi := wi) (g := gAll X scope (.Name x px)) (tt := tYes) (te := eAll X scope elt) hc hN pi ok (fun s H C cl fp => ⟨fun pins s1 σ H1 v u Q I r h => h s H C cl fp pins s1 u I r⟩) (fun s H C cl fp => pts_nil) (fun s H C cl fp => ⟨fun pins s1 σ H1 Q I h => h s H C cl fp pins s1 I⟩) hsw)) ?_
  refine lc_read hd1 hi I h0 hdom (fun j d Mi acc hj hI => ?_) hd hM'
  obtain ⟨d', M2, he, hI2⟩ := hs j d Mi acc hj hI
  refine ⟨_, true, Mi, gv_nm hN hXi hx hf, ⟨rfl, fun σ F H Q r s q => q F H (Gr.refl _ _ _) s⟩, fun _ => ⟨d', M2, ⟨(hdom _ _ _ hI2).1.trans (hdom _ _ _ hI).1.symm, fun σ F H Q r s q s1 H1 C cl fp => (he s1 H1 C cl fp).2 σ F H Q r s q⟩, hI2⟩, fun z => absurd z (by simp)⟩
/-- [elt for x in iter if c] -/
theorem ex_lcIf (i : Nat) (hc : X.calm = true) (hN : X.N.Nodup) (hi : IX X (.Name x px) iter G M ds M1) (ok : BlkOk X.N X.env.scope scope [(x, i)]) (I : Nat → Mst → List Dt → Prop) (h0 : I 0 M1 []) (hdom : ∀ i Mi acc, I i Mi acc → dom Mi = dom M ∧ acc.length ≤ 100000)
    (hs : ∀ (j : Nat) d Mi acc, ds[j]? = some d → I j Mi acc → ∃ b Mt, (∀ s H C cl fp, TX (Xb X scope s H C cl fp) c (G.set i (some d)) Mi b Mt) ∧ dom Mt = dom Mi ∧ (b = true → ∃ d' M2, (∀ s H C cl fp, EX (Xb X scope s H C cl fp) elt (G.set i (some d)) Mt d' M2) ∧ I (j + 1) M2 (acc ++ [d'])) ∧ (b = false → I (j + 1) Mt acc))
    (hd : ∀ Mn acc, I ds.length Mn acc → Mn = M' ∧ acc = out) (hM' : dom M' = dom M)
    (hx : ∀ s H C cl fp, Loc (Xb X scope s H C cl fp).env.scope x := by intro _ _ _ _ _; exact Or.inl rfl) (hf : ∀ s H C cl fp, (Xb X scope s H C cl fp).fn x = true ∨ (Xb X scope s H C cl fp).env.scope.names.lookup x = some .local := by intro _ _ _ _ _; exact Or.inr rfl)
    (hXi : X.N[i]? = some x := by rfl) (hsw : ∀ x, foldedSetIterable iter X.env x = pure x := by intro _; rfl) : EX X (.ListComp elt [⟨.Name x px, iter, [c], 0⟩] scope pos) G M (.lst out) M' := by
  obtain ⟨hd1, wi, pi, hi⟩ := hi
  refine EE.of (w_e (pe_lc (own := [(x, i)]) (wi := wi) (g := gAll X scope (.Name x px)) (tt := tAll X scope c) (te := eAll X scope elt) hc hN pi ok (fun s H C cl fp => ⟨fun pins s1 σ H1 v u Q I r h => h s H C cl fp pins s1 u I r⟩) (fun s H C cl fp => pts_one ⟨fun pins s1 σ H1 Q I h => h s H C cl fp pins s1 I⟩) (fun s H C cl fp => ⟨fun pins s1 σ H1 Q I h => h s H C cl fp pins s1 I⟩) hsw)) ?_
  refine lc_read hd1 hi I h0 hdom (fun j d Mi acc hj hI => ?_) hd hM'
  obtain ⟨b, Mt, ht, hdt, hy, hn⟩ := hs j d Mi acc hj hI
  refine ⟨_, b, Mt, gv_nm hN hXi hx hf, ⟨hdt, fun σ F H Q r s q s1 H1 C cl fp => (ht s1 H1 C cl fp).2 σ F H Q r s q⟩, fun hb => ?_, hn⟩
  obtain ⟨d', M2, he, hI2⟩ := hy hb
  exact ⟨d', M2, ⟨((hdom _ _ _ hI2).1.trans (hdom _ _ _ hI).1.symm).trans hdt.symm, fun σ F H Q r s q s1 H1 C cl fp => (he s1 H1 C cl fp).2 σ F H Q r s q⟩, hI2⟩
end
end HM

set_option Elab.async false
set_option linter.all false
set_option maxRecDepth 100000
set_option maxHeartbeats 4000000
/-! CM3: [.. for x, y in a list of pairs if ..], calm and hot. -/
namespace HM
open PySem PySem.Spec PyProof.Rows L2 HTN L2H
section
variable {X : Cx} {iter elt c : Expr} {scope : Scope} {G : List (Option Dt)} {M M' : Mst} {ds out : List Dt} {pos px py ppos : Pos} {x y : Str} {d d1 d2 : Dt} {i i2 : Nat}
def gAllH (X : Cx) (scope : Scope) (tg : Expr) : TG := fun v σ H Q => ∀ (s : Shared) (H' : Hp) (C : Addr) (cl : List (Str × Addr)) (fp : List Addr), wG (XbH X scope s H' C cl fp) tg v σ H Q
def eAllH (X : Cx) (scope : Scope) (e : Expr) : TE := fun σ H Q => ∀ (s : Shared) (H' : Hp) (C : Addr) (cl : List (Str × Addr)) (fp : List Addr), wE (XbH X scope s H' C cl fp) e σ H Q
def tAllH (X : Cx) (scope : Scope) (e : Expr) : TT := fun σ H Q => ∀ (s : Shared) (H' : Hp) (C : Addr) (cl : List (Str × Addr)) (fp : List Addr), wT (XbH X scope s H' C cl fp) e σ H Q
/-- what a pair's stores do -/
theorem gv_pair {K : PySem.W.Frag} {g : TG} (hne : i ≠ i2) (hg : ∀ (v1 v2 : V) (a : Addr) σ (H : Hp) (Q : L2.St → Hp → Prop), SqT K H a [v1, v2] → Q ((σ.set i (some v1)).set i2 (some v2)) H → g (.ref a) σ H Q) :
    GV K g [i, i2] (wipeD G [i, i2]) (.tup [d1, d2]) ((G.set i (some d1)).set i2 (some d2)) := fun v σ F H Q r sb rv q => by
  obtain ⟨a, vs, rfl, h1, v1, r1, rfl, e1, v2, r2, rfl, e2, e3⟩ := rv
  have e3 : r2 = [] := e3
  subst e3
  refine hg v1 v2 a σ H Q (sb.sqT h1) (q _ ?_ ?_)
  · have := (r.set e1 i).set e2 i2
    have e : ((wipeD G [i, i2]).set i (some d1)).set i2 (some d2) = (G.set i (some d1)).set i2 (some d2) := by
      show ((((G.set i2 none).set i none).set i (some d1)).set i2 (some d2)) = _
      rw [List.set_set, List.set_comm _ _ hne.symm, List.set_set, List.set_comm _ _ hne]
    rw [e] at this
    exact this
  · rw [wipe_set (List.mem_cons_of_mem _ List.mem_cons_self), wipe_set List.mem_cons_self]
theorem pgs_pair {X' : Cx} (hN : X'.N.Nodup) (hi : X'.N[i]? = some x) (hi2 : X'.N[i2]? = some y) (hx : Loc X'.env.scope x) (hy : Loc X'.env.scope y) (hf : X'.fn x = true ∨ X'.env.scope.names.lookup x = some .local) (hf2 : X'.fn y = true ∨ X'.env.scope.names.lookup y = some .local)
    (hs : (assignEach [.Name x px, .Name y py] X'.env).map (·.2) = assign (.Name x px) X'.env :: (assignEach [.Name y py] X'.env).map (·.2)) (hs2 : (assignEach [.Name y py] X'.env).map (·.2) = assign (.Name y py) X'.env :: (assignEach [] X'.env).map (·.2)) :
    PGs X' [.Name x px, .Name y py] (gCons (gName i) (gCons (gName i2) gNil)) := pgs_cons (pg_name hN hi hx hf) (pgs_cons (pg_name hN hi2 hy hf2) pgs_nil hs2) hs
/-- calm -/
theorem ex_lcT (i i2 : Nat) (hne : i ≠ i2) (hc : X.calm = true) (hN : X.N.Nodup) {k : Nat} (hi : EX X iter G M (.lst ds) M) (ok : BlkOk X.N X.env.scope scope [(x, i), (y, i2)]) (I : Nat → Mst → List Dt → Prop) (h0 : I 0 M []) (hdom : ∀ i Mi acc, I i Mi acc → dom Mi = dom M ∧ acc.length ≤ 100000)
    (hsh : ∀ (j : Nat) d, ds[j]? = some d → ∃ d1 d2, d = .tup [d1, d2])
    (hs : ∀ (j : Nat) d1 d2 Mi acc, ds[j]? = some (.tup [d1, d2]) → I j Mi acc → ∃ b, (∀ s H C cl fp, TX (Xb X scope s H C cl fp) c ((G.set i (some d1)).set i2 (some d2)) Mi b Mi) ∧ (b = true → ∃ d', (∀ s H C cl fp, EX (Xb X scope s H C cl fp) elt ((G.set i (some d1)).set i2 (some d2)) Mi d' Mi) ∧ I (j + 1) Mi (acc ++ [d'])) ∧ (b = false → I (j + 1) Mi acc))
    (hd : ∀ Mn acc, I ds.length Mn acc → Mn = M' ∧ acc = out) (hM' : dom M' = dom M)
    (hx : ∀ s H C cl fp, Loc (Xb X scope s H C cl fp).env.scope x := by intro _ _ _ _ _; exact Or.inl rfl) (hf : ∀ s H C cl fp, (Xb X scope s H C cl fp).fn x = true ∨ (Xb X scope s H C cl fp).env.scope.names.lookup x = some .local := by intro _ _ _ _ _; exact Or.inr rfl)
    (hy : ∀ s H C cl fp, Loc (Xb X scope s H C cl fp).env.scope y := by intro _ _ _ _ _; exact Or.inl rfl) (hf2 : ∀ s H C cl fp, (Xb X scope s H C cl fp).fn y = true ∨ (Xb X scope s H C cl fp).env.scope.names.lookup y = some .local := by intro _ _ _ _ _; exact Or.inr rfl)
    (hXi : X.N[i]? = some x := by rfl) (hXi2 : X.N[i2]? = some y := by rfl) (hsw : ∀ x, foldedSetIterable iter X.env x = pure x := by intro _; rfl)
    (hsa : ∀ s H C cl fp, (assignEach [.Name x px, .Name y py] (Xb X scope s H C cl fp).env).map (·.2) = assign (.Name x px) (Xb X scope s H C cl fp).env :: (assignEach [.Name y py] (Xb X scope s H C cl fp).env).map (·.2) := by intro _ _ _ _ _; rfl)
    (hsb : ∀ s H C cl fp, (assignEach [.Name y py] (Xb X scope s H C cl fp).env).map (·.2) = assign (.Name y py) (Xb X scope s H C cl fp).env :: (assignEach [] (Xb X scope s H C cl fp).env).map (·.2) := by intro _ _ _ _ _; rfl)
    (hn : ∀ s H C cl fp, (assignEach [.Name x px, .Name y py] (Xb X scope s H C cl fp).env).length = 2 := by intro _ _ _ _ _; rfl) (hst : ∀ s H C cl fp, (assignEach [.Name x px, .Name y py] (Xb X scope s H C cl fp).env).findIdx? (·.1) = none := by intro _ _ _ _ _; rfl) :
    EX X (.ListComp elt [⟨.Tuple [.Name x px, .Name y py] k ppos, iter, [c], 0⟩] scope pos) G M (.lst out) M' := by
  obtain ⟨hd1, wi, pi, hi⟩ := ix_lst (tg := .Tuple [.Name x px, .Name y py] k ppos) hi
  refine EE.of (w_e (pe_lc (own := [(x, i), (y, i2)]) (wi := wi) (g := gAll X scope (.Tuple [.Name x px, .Name y py] k ppos)) (tt := tAll X scope c) (te := eAll X scope elt) hc hN pi ok (fun s H C cl fp => ⟨fun pins s1 σ H1 v u Q I r h => h s H C cl fp pins s1 u I r⟩) (fun s H C cl fp => pts_one ⟨fun pins s1 σ H1 Q I h => h s H C cl fp pins s1 I⟩) (fun s H C cl fp => ⟨fun pins s1 σ H1 Q I h => h s H C cl fp pins s1 I⟩) hsw)) ?_
  refine lc_read hd1 hi I h0 hdom (fun j d Mi acc hj hI => ?_) hd hM'
  obtain ⟨d1, d2, rfl⟩ := hsh j d hj
  obtain ⟨b, ht, hyes, hno⟩ := hs j d1 d2 Mi acc hj hI
  refine ⟨_, b, Mi, gv_pair hne fun v1 v2 a σ H Q hq q s1 H1 C cl fp => ?_, ⟨rfl, fun σ F H Q r s q s1 H1 C cl fp => (ht s1 H1 C cl fp).2 σ F H Q r s q⟩, fun hb => ?_, hno⟩
  · exact w_g (X := Xb X scope s1 H1 C cl fp) (pg_tup hc (pgs_pair hN hXi hXi2 (hx _ _ _ _ _) (hy _ _ _ _ _) (hf _ _ _ _ _) (hf2 _ _ _ _ _) (hsa _ _ _ _ _) (hsb _ _ _ _ _)) (hn _ _ _ _ _) (hst _ _ _ _ _)) ⟨a, [v1, v2], rfl, hq, rfl, v1, [v2], rfl, v2, [], rfl, rfl, q⟩
  · obtain ⟨d', he, hI2⟩ := hyes hb
    exact ⟨d', Mi, ⟨rfl, fun σ F H Q r s q s1 H1 C cl fp => (he s1 H1 C cl fp).2 σ F H Q r s q⟩, hI2⟩
/-- where an exception is handled -/
theorem ex_lcTH (i i2 : Nat) (hne : i ≠ i2) (hc : HotC X) (hN : X.N.Nodup) {k : Nat} (hi : EX X iter G M (.lst ds) M) (ok : BlkOk X.N X.env.scope scope [(x, i), (y, i2)]) (I : Nat → Mst → List Dt → Prop) (h0 : I 0 M []) (hdom : ∀ i Mi acc, I i Mi acc → dom Mi = dom M ∧ acc.length ≤ 100000)
    (hsh : ∀ (j : Nat) d, ds[j]? = some d → ∃ d1 d2, d = .tup [d1, d2])
    (hs : ∀ (j : Nat) d1 d2 Mi acc, ds[j]? = some (.tup [d1, d2]) → I j Mi acc → ∃ b, (∀ s H C cl fp, TX (XbH X scope s H C cl fp) c ((G.set i (some d1)).set i2 (some d2)) Mi b Mi) ∧ (b = true → ∃ d', (∀ s H C cl fp, EX (XbH X scope s H C cl fp) elt ((G.set i (some d1)).set i2 (some d2)) Mi d' Mi) ∧ I (j + 1) Mi (acc ++ [d'])) ∧ (b = false → I (j + 1) Mi acc))
    (hd : ∀ Mn acc, I ds.length Mn acc → Mn = M' ∧ acc = out) (hM' : dom M' = dom M)
    (hx : ∀ s H C cl fp, Loc (XbH X scope s H C cl fp).env.scope x := by intro _ _ _ _ _; exact Or.inl rfl) (hf : ∀ s H C cl fp, (XbH X scope s H C cl fp).fn x = true ∨ (XbH X scope s H C cl fp).env.scope.names.lookup x = some .local := by intro _ _ _ _ _; exact Or.inr rfl)
    (hy : ∀ s H C cl fp, Loc (XbH X scope s H C cl fp).env.scope y := by intro _ _ _ _ _; exact Or.inl rfl) (hf2 : ∀ s H C cl fp, (XbH X scope s H C cl fp).fn y = true ∨ (XbH X scope s H C cl fp).env.scope.names.lookup y = some .local := by intro _ _ _ _ _; exact Or.inr rfl)
    (hXi : X.N[i]? = some x := by rfl) (hXi2 : X.N[i2]? = some y := by rfl) (hsw : ∀ x, foldedSetIterable iter X.env x = pure x := by intro _; rfl)
    (hsa : ∀ s H C cl fp, (assignEach [.Name x px, .Name y py] (XbH X scope s H C cl fp).env).map (·.2) = assign (.Name x px) (XbH X scope s H C cl fp).env :: (assignEach [.Name y py] (XbH X scope s H C cl fp).env).map (·.2) := by intro _ _ _ _ _; rfl)
    (hsb : ∀ s H C cl fp, (assignEach [.Name y py] (XbH X scope s H C cl fp).env).map (·.2) = assign (.Name y py) (XbH X scope s H C cl fp).env :: (assignEach [] (XbH X scope s H C cl fp).env).map (·.2) := by intro _ _ _ _ _; rfl)
    (hn : ∀ s H C cl fp, (assignEach [.Name x px, .Name y py] (XbH X scope s H C cl fp).env).length = 2 := by intro _ _ _ _ _; rfl) (hst : ∀ s H C cl fp, (assignEach [.Name x px, .Name y py] (XbH X scope s H C cl fp).env).findIdx? (·.1) = none := by intro _ _ _ _ _; rfl) :
    EX X (.ListComp elt [⟨.Tuple [.Name x px, .Name y py] k ppos, iter, [c], 0⟩] scope pos) G M (.lst out) M' := by
  refine EE.of (w_e (pe_lcH (own := [(x, i), (y, i2)]) (wi := iList X.K (wE X iter)) (g := gAllH X scope (.Tuple [.Name x px, .Name y py] k ppos)) (tt := tAllH X scope c) (te := eAllH X scope elt) hc hN (pi_listH pe_w) ok (fun s H C cl fp => ⟨fun pins s1 σ H1 v u Q I r h => h s H C cl fp pins s1 u I r⟩) (fun s H C cl fp => pts_one ⟨fun pins s1 σ H1 Q I h => h s H C cl fp pins s1 I⟩) (fun s H C cl fp => ⟨fun pins s1 σ H1 Q I h => h s H C cl fp pins s1 I⟩) hsw)) ?_
  refine lc_read (M1 := M) (ds := ds) rfl (fun σ F H R rs s q => hi.2 σ F H _ rs s fun v F1 H1 g1 s1 r1 => ?_) I h0 hdom (fun j d Mi acc hj hI => ?_) hd hM'
  · obtain ⟨a, vs, rfl, h1, h2⟩ := r1
    exact ⟨a, rfl, ⟨vs, s1.sub.sqL h1⟩, q _ F1 H1 g1 s1 (itd_list h1 h2)⟩
  obtain ⟨d1, d2, rfl⟩ := hsh j d hj
  obtain ⟨b, ht, hyes, hno⟩ := hs j d1 d2 Mi acc hj hI
  refine ⟨_, b, Mi, gv_pair hne fun v1 v2 a σ H Q hq q s1 H1 C cl fp => ?_, ⟨rfl, fun σ F H Q r s q s1 H1 C cl fp => (ht s1 H1 C cl fp).2 σ F H Q r s q⟩, fun hb => ?_, hno⟩
  · exact w_g (X := XbH X scope s1 H1 C cl fp) (pg_tupH hc (pgs_pair hN hXi hXi2 (hx _ _ _ _ _) (hy _ _ _ _ _) (hf _ _ _ _ _) (hf2 _ _ _ _ _) (hsa _ _ _ _ _) (hsb _ _ _ _ _)) (hn _ _ _ _ _) (hst _ _ _ _ _)) ⟨a, [v1, v2], rfl, hq, rfl, v1, [v2], rfl, v2, [], rfl, rfl, q⟩
  · obtain ⟨d', he, hI2⟩ := hyes hb
    exact ⟨d', Mi, ⟨rfl, fun σ F H Q r s q s1 H1 C cl fp => (he s1 H1 C cl fp).2 σ F H Q r s q⟩, hI2⟩
end
end HM

set_option Elab.async false
set_option linter.all false
set_option maxRecDepth 100000
set_option maxHeartbeats 4000000
/-! DK: calls by keywords; defs with *args; defs called where an exception is handled. -/
namespace HM
open PySem PySem.Spec PyProof.Rows L2

/-! ### keywords -/
def wK (X : Cx) (kws : List Keyword) : TA := fun σ H Q => ∀ (pos : Pos) (pins : List (Addr × Obj)) (s : Shared), Inv X pins σ H s → wpAny (model X.prog X.w) X.A (evalAll ((backToKw pos (keywordEach kws X.env)).map (·.2))) (AP X pins σ Q) X.xe s
theorem pk_w {X : Cx} {kws : List Keyword} : PK X kws (wK X kws) := ⟨fun pos pins s _ _ _ I h => h pos pins s I⟩
theorem w_k {X : Cx} {kws : List Keyword} {t : TA} (h : PK X kws t) {σ : L2.St} {H : Hp} {Q : List V → Hp → Prop} (q : t σ H Q) : wK X kws σ H Q := fun pos pins s I => h.run pos pins s σ H Q I q
abbrev KX (X : Cx) (kws : List Keyword) (G : List (Option Dt)) (M : Mst) (ds : List Dt) (M' : Mst) : Prop := EA X.K (wK X kws) G M ds M'
section
variable {X : Cx} {e : Expr} {es : List Expr} {kws : List Keyword} {G : List (Option Dt)} {M M1 M2 : Mst} {d : Dt} {ds : List Dt} {pos apos kpos : Pos} {x : Str} {nm : Option Str} {ps ks : List Str}
theorem kx_nil : KX X [] G M [] M := ⟨rfl, fun σ F H Q _ s q => w_k pk_nil (q [] F H (Gr.refl _ _ _) s rfl)⟩
theorem kx_cons (h : EX X e G M d M1) (hr : KX X kws G M1 ds M2) : KX X (⟨nm, e, kpos⟩ :: kws) G M (d :: ds) M2 :=
  ⟨hr.1.trans h.1, fun σ F H Q r s q => w_k (pk_cons pe_w pk_w) (h.2 σ F H _ r s fun v F1 H1 g1 s1 r1 =>
    hr.2 σ F1 H1 _ (r.mono g1.sub) s1 fun vs F2 H2 g2 s2 r2 => q _ F2 H2 (gr2 h.1 g1 g2) s2 (Reps.cons (Rep.mono g2.sub _ r1) r2))⟩
/-- a def that may be called by keywords -/
def DfK (P : Program) (w : World) (K : PySem.W.Frag) (mg : Str → Option Value) (base : Heap) (x : Str) (ps : List Str) (st : Stmt) (k : Nat) (W : Ct) : Prop :=
  ∃ (f : Addr) (fd : FuncData) (y qual : Str), mg x = some (.ref f) ∧ PySem.W.keepIn K (.ref f) = true ∧ Fun K y qual st f fd ∧ FnOk P w K mg base (L2N.CX P w) k f fd ps (spC K W)
theorem DfK.df {P : Program} {w : World} {K : PySem.W.Frag} {mg : Str → Option Value} {base : Heap} {st : Stmt} {k : Nat} {W : Ct} (D : DfK P w K mg base x ps st k W)
    (hb : ∀ (y qual : Str) (kV doc pm : Value) (an : Option Addr) (cdv ct : Value) (us : List Value), us.length = ps.length → bindArgs (PySem.W.fnOf y qual (defArgs st) (defBody st) (defScope st) .none kV doc pm an cdv ct) ⟨us, []⟩ = pure (ps.zip us)) : Df P w K mg base x k W := by
  obtain ⟨f, fd, y, qual, h1, h2, F, O⟩ := D
  refine ⟨f, h1, h2, fun A outer s H us vs Q E hr e0 rv hs => ?_⟩
  have := (FnOk.raw (dvs := []) O (F.binds (hb y qual)) .nil) A outer s H us vs Q E hr e0 rv (by show spC K W (vs ++ []) H Q E; rw [List.append_nil]; exact hs)
  exact this
/-- how keywords bind: g sorts them -/
def KB (st : Stmt) (ps ks : List Str) (g : {α : Type} → List α → List α) : Prop := ∀ (y qual : Str) (kV doc pm : Value) (an : Option Addr) (cdv ct : Value) (ws : List Value), ws.length = ks.length →
  bindArgs (PySem.W.fnOf y qual (defArgs st) (defBody st) (defScope st) .none kV doc pm an cdv ct) ⟨[], ks.zip ws⟩ = pure (ps.zip (g ws))
/-- a sorting of one, of two -/
def g1 {α : Type} (l : List α) : List α := l
def g2 {α : Type} (l : List α) : List α := l.reverse
theorem vals_g1 {vs : List V} {us : List Value} (r : Vals vs us) : Vals (g1 vs) (g1 us) := r
theorem vals_g2 {vs : List V} {us : List Value} (r : Vals vs us) : Vals (g2 vs) (g2 us) := r.reverse
theorem takesF {X : Cx} : L2N.Takes X (fun _ _ _ _ => False) := fun u s' ⟨_, _, _, _, _, _, _, _, _, _, _, _, _, _, _, _, w⟩ => w.elim
theorem pe_callKS {j : Nat} {f : Addr} {fd : FuncData} {y qual : Str} {st : Stmt} {sp : Sp} {Wx : WX} {tk : TA} {g : {α : Type} → List α → List α} (F : Fun X.K y qual st f fd) (O : FnOk X.prog X.w X.K X.mg X.base (L2N.CX X.prog X.w) j f fd ps sp) (hr : Room j X.A) (hg : Gl X x) (hm : X.mg x = some (.ref f)) (hk : PySem.W.keepIn X.K (.ref f) = true) (tkk : L2N.Takes X Wx)
    (hkb : KB st ps ks g) (hgv : ∀ {vs : List V} {us : List Value}, Vals vs us → Vals (g vs) (g us)) (hlen : ∀ {vs : List V} {H : Hp} {Q : VK} {E : XK}, sp (g vs) H Q E → vs.length = ks.length) (hkw : PK X kws tk) (hall : (backToKw pos (keywordEach kws X.env)).all (·.1.isSome) = true := by rfl) (hks : (backToKw pos (keywordEach kws X.env)).filterMap (·.1) = ks := by rfl)
    (hdb : (x == ("__debug__" : Str)) = false := by decide) (hpl : ((backTo pos (starEach [] X.env)).any (·.1) || (backToKw pos (keywordEach kws X.env)).any (·.1.isNone)) = false := by rfl) :
    PE X (.Call (.Name x apos) [] kws pos) (fun σ H Q => tk σ H fun vs H1 => sp (g vs) H1 Q (WE Wx σ)) := by
  refine ⟨fun pins s σ H Q I h => ?_⟩
  obtain ⟨oc, od, kV, doc, pm, an, cdv, ct, osl, e, lk, hcd⟩ := F.ex
  refine wpAny_Call_Name_kw (ld_glob I hg hm ?_ hdb)
  refine PySem.W.callWith_KW0 (h₀ := X.base) I.ok.mod.kin hk hall (thn (hkw.run pos pins s σ H _ I h) fun ws s2 ⟨zs, H2, I2, rz, q2⟩ => ⟨I2.kIn, ?_⟩) hpl
  rw [hks]
  show wpAny _ _ (call (.ref f) [] (ks.zip ws)) _ _ _
  have hws : ws.length = ks.length := rz.length.symm.trans (hlen q2)
  have bnd : BindsTo s2 fd ⟨[], ks.zip ws⟩ (ps.zip (g ws)) := by
    rw [e]
    exact .of_eq (hkb y qual kV doc pm an cdv ct ws hws)
  refine wpAny_call (codeAny_mono (O.run X.A X.stack s2 H2 ⟨[], ks.zip ws⟩ (g ws) (g zs) Q (WE Wx σ) hr I2.env0 bnd (hgv rz) q2) fun r s' hq => ?_)
  cases r with
  | error e => exact L2N.passAt tkk σ pins H2 s2 e s' I2 hq
  | ok fl =>
    cases fl with
    | ret u => exact I2.after hq
    | next => exact False.elim hq
    | brk => exact False.elim hq
    | cont => exact False.elim hq
theorem spC_len {W : Ct} {K : PySem.W.Frag} {n m : Nat} {g : {α : Type} → List α → List α} (hgl : ∀ (α : Type) (l : List α), (g l).length = l.length) (hW : ∀ ds M R Z, W ds M R Z → ds.length = n) {vs : List V} {H : Hp} {Q : VK} {E : XK} (h : spC K W (g vs) H Q E) : vs.length = n := by
  obtain ⟨F, M, ds, R, Z, _, r, hw, _⟩ := h
  have := r.len
  rw [hgl] at this
  rw [this]
  exact hW ds M R Z hw
/-- x(k = v, ..), where nothing is raised -/
theorem ex_callK {j i : Nat} {W : Ct} {st : Stmt} {g : {α : Type} → List α → List α} (D : DfK X.prog X.w X.K X.mg X.base x ps st j W) (hr : Room i X.A) (hkb : KB st ps ks g) (hkx : KX X kws G M ds M1) (hgv : ∀ {vs : List V} {us : List Value}, Vals vs us → Vals (g vs) (g us)) (hgl : ∀ (α : Type) (l : List α), (g l).length = l.length)
    (hgr : ∀ {K : PySem.W.Frag} {F : Hp} {ds : List Dt} {vs : List V}, Reps K F ds vs → Reps K F (g ds) (g vs)) (hW : ∀ ds M R Z, W ds M R Z → ds.length = ks.length) (hw : W (g ds) M1 (fun d' M' => d' = d ∧ M' = M2) E00) (hd : dom M2 = dom M1 := by rfl) (hj : j ≤ i := by decide)
    (hg : Gl X x := by rfl) (hall : (backToKw pos (keywordEach kws X.env)).all (·.1.isSome) = true := by rfl) (hks : (backToKw pos (keywordEach kws X.env)).filterMap (·.1) = ks := by rfl)
    (hdb : (x == ("__debug__" : Str)) = false := by decide) (hpl : ((backTo pos (starEach [] X.env)).any (·.1) || (backToKw pos (keywordEach kws X.env)).any (·.1.isNone)) = false := by rfl) : EX X (.Call (.Name x apos) [] kws pos) G M d M2 := by
  obtain ⟨f, fd, y, qual, hm, hk, F, O⟩ := D
  refine ⟨hd.trans hkx.1, fun σ F' H Q rs s q => w_e (pe_callKS (Wx := fun _ _ _ _ => False) F O (hr.mono hj) hg hm hk takesF hkb hgv (fun h => spC_len (m := 0) hgl hW h) pk_w hall hks hdb hpl) (hkx.2 σ F' H _ rs s fun vs F1 H1 g1 s1 r1 => ?_)⟩
  exact ⟨F1, M1, g ds, _, _, s1, hgr r1, hw, fun d' M' v F2 H2 ⟨e1, e2⟩ _ gg s' rv => by
    subst e1 e2
    exact q v F2 H2 (gr2 hkx.1 g1 gg) s' rv, fun _ _ _ _ _ _ _ _ z => z.elim⟩
theorem ez_callK {j i : Nat} {W : Ct} {st : Stmt} {g : {α : Type} → List α → List α} {R : Dt → Mst → Prop} {Z : Er} (D : DfK X.prog X.w X.K X.mg X.base x ps st j W) (hr : Room i X.A) (hkb : KB st ps ks g) (hkx : KX X kws G M ds M1) (hgv : ∀ {vs : List V} {us : List Value}, Vals vs us → Vals (g vs) (g us)) (hgl : ∀ (α : Type) (l : List α), (g l).length = l.length)
    (hgr : ∀ {K : PySem.W.Frag} {F : Hp} {ds : List Dt} {vs : List V}, Reps K F ds vs → Reps K F (g ds) (g vs)) (hW : ∀ ds M R Z, W ds M R Z → ds.length = ks.length) (hw : W (g ds) M1 R Z) (hj : j ≤ i := by decide)
    (hg : Gl X x := by rfl) (hall : (backToKw pos (keywordEach kws X.env)).all (·.1.isSome) = true := by rfl) (hks : (backToKw pos (keywordEach kws X.env)).filterMap (·.1) = ks := by rfl)
    (hdb : (x == ("__debug__" : Str)) = false := by decide) (hpl : ((backTo pos (starEach [] X.env)).any (·.1) || (backToKw pos (keywordEach kws X.env)).any (·.1.isNone)) = false := by rfl) : EZ X (.Call (.Name x apos) [] kws pos) G M R Z := by
  obtain ⟨f, fd, y, qual, hm, hk, F, O⟩ := D
  intro B σ H Q ⟨Wx, tk, hE⟩ ⟨F0, g0, s0, r0, m0⟩ k
  refine w_e (pe_callKS F O (hr.mono hj) hg hm hk tk hkb hgv (fun h => spC_len (m := 0) hgl hW h) pk_w hall hks hdb hpl) (hkx.2 σ F0 H _ r0 s0 fun vs F1 H1 g1 s1 r1 => ⟨F1, M1, g ds, R, Z, s1, hgr r1, hw, fun d' M' v F' H' hR hd gg s' rv => ?_, fun C ks fs M' dd ws F' H' hZ hd gg s' h1 h2 h3 => ?_⟩)
  · exact k d' M' v F' H' hR (hd.trans hkx.1) (g0.trans (gr2 hkx.1 g1 gg) m0) s' rv
  · exact hE G C ks fs M' dd ws σ F' H' ⟨rfl, hd.trans hkx.1, hZ⟩ (by rw [hd, hkx.1]; exact m0) (g0.trans (gr2 hkx.1 g1 gg) m0) s' (r0.mono (g1.sub.trans gg.sub)) h1 h2 h3
end
end HM
namespace HM
open PySem PySem.Spec PyProof.Rows L2 XN
/-! ### an own exception by keywords -/
def KBX (st : Stmt) (ps ks : List Str) (g : {α : Type} → List α → List α) : Prop := ∀ (x qual : Str) (kV doc pm : Value) (an : Option Addr) (cdv ct : Value) (cc : Addr) (u : Value) (ws : List Value), ws.length = ks.length →
  bindArgs (PySem.W.ksFn x qual (defArgs st) (defBody st) (defScope st) .none kV doc pm an cdv ct cc) ⟨[u], ks.zip ws⟩ = pure ((("self" : Str), u) :: ps.zip (g ws))
section
variable {X : Cx} {x : Str} {C : Addr} {code : Str} {ps ks : List Str} {st : Stmt} {kws : List Keyword} {p pos : Pos} {G : List (Option Dt)} {M M1 : Mst} {ds : List Dt} {g : {α : Type} → List α → List α}
theorem ex_excK (T : Xm X.prog X.K X.mg x C code ps st) (hd : X.A.depth + 2 < recursionLimit) (hkb : KBX st ps ks g) (hkx : KX X kws G M ds M1) (hl : ds.length = ks.length) (hlp : ks.length = ps.length) (hgv : ∀ {vs : List V} {us : List Value}, Vals vs us → Vals (g vs) (g us)) (hgl : ∀ (α : Type) (l : List α), (g l).length = l.length)
    (hgr : ∀ {K : PySem.W.Frag} {F : Hp} {ds : List Dt} {vs : List V}, Reps K F ds vs → Reps K F (g ds) (g vs)) (hg : Gl X x := by rfl) (hall : (backToKw pos (keywordEach kws X.env)).all (·.1.isSome) = true := by rfl) (hks : (backToKw pos (keywordEach kws X.env)).filterMap (·.1) = ks := by rfl)
    (hdb : (x == ("__debug__" : Str)) = false := by decide) (hpl : ((backTo pos (starEach [] X.env)).any (·.1) || (backToKw pos (keywordEach kws X.env)).any (·.1.isNone)) = false := by rfl) :
    EX X (.Call (.Name x p) [] kws pos) G M (.exc C (xks ps) (xds code (g ds))) M1 := by
  have pe : PE X (.Call (.Name x p) [] kws pos) (fun σ H Q => wK X kws σ H fun vs H1 => vs.length = ks.length ∧ ∀ a d, H1 a = none → H1 d = none → d ≠ a → Q (.ref a) (upd (upd H1 d (exd d ((xks ps).zip (xvs code (g vs))))) a (exo a C (some d)))) := by
    refine ⟨fun pins s σ H Q I h => ?_⟩
    refine wpAny_Call_Name_kw (ld_glob I hg T.mg ?_ hdb)
    refine PySem.W.callWith_KW0 (h₀ := X.base) I.ok.mod.kin T.kC hall (thn (pk_w.run pos pins s σ H _ I h) fun us s1 ⟨vs, H1, I1, r1, hl, q⟩ => ⟨I1.kIn, ?_⟩) hpl
    rw [hks]
    have hul : us.length = ks.length := r1.length.symm.trans hl
    have hgul : (g us).length = ps.length := by rw [hgl, hul, hlp]
    refine run_mk (rest := []) T.xc I1 hd (by show 0 ≤ sizeLine; decide) (hgv r1) hgul T.len (T.xc.bind fun x qual kV doc pm an cdv ct cc u => hkb x qual kV doc pm an cdv ct cc u us hul) fun a dx t1 h' t' mA k hae hde ne hx hn r => ?_
    exact ⟨.ref a, _, Inv.madeX I1 k hae hde ne hx hn r, rfl, q a dx (I1.hok.fresh hae) (I1.hok.fresh hde) ne⟩
  exact ⟨hkx.1, fun σ F H Q r s q => w_e pe (hkx.2 σ F H _ r s fun vs F1 H1 gg1 s1 r1 => ⟨r1.len.trans hl, fun a d na nd ne => by
    have hgvl : (g vs).length = ps.length := by rw [hgl, r1.len, hl, hlp]
    have s2 := s1.new (o := exd d ((xks ps).zip (xvs code (g vs)))) nd
    have na2 : upd H1 d (exd d ((xks ps).zip (xvs code (g vs)))) a = none := by rw [upd_ne (Ne.symm ne)]; exact na
    have s3 := s2.new (o := exo a C (some d)) na2
    have gg2 := gr_new (o := exd d ((xks ps).zip (xvs code (g vs)))) s1 nd
    have gg3 := gr_new (o := exo a C (some d)) s2 na2
    refine q _ _ _ (gr2 hkx.1 gg1 (gg2.trans' gg3)) s3 ⟨a, d, xvs code (g vs), rfl, upd_same, ?_, xvs_len hgvl, xds_rep (Reps.mono (gg2.sub.trans gg3.sub) _ (hgr r1))⟩
    rw [upd_ne ne]
    exact upd_same⟩)⟩
end

/-! ### def f(*v) -/
theorem cxUpN {P : Program} {w : World} : StX.CXUp (L2N.CX P w) := by
  rintro outer s H s2 H2 E e s' un kp ho ⟨a, B, H', cls, d, ea, fl, hok, ub, na, os, ag, he⟩
  refine ⟨a, B, H', cls, d, ea, fl, hok, ⟨fun b o q n hb => ub.keep b o (kp b o q) (un.free b o q n (by simp)) hb, fun b o q hb => ub.slot b o (kp b o q) hb, fun b o q n => ub.free b o (kp b o q) (un.free b o q n (by simp)),
    fun b o q hb => ub.there b o (kp b o q) hb, fun b xs q => ub.tups b xs (un.tups b xs q), fun b o xs q => ub.frzs b o xs (un.frzs b o xs q), fun b ps q => ?_⟩, na, os.trans ho, ag, he⟩
  obtain ⟨m1, e1⟩ := un.tbls b ps q
  obtain ⟨m2, e2⟩ := ub.tbls b _ e1
  exact ⟨m1 ++ m2, by rw [e2, Array.append_assoc]⟩
section
variable {P : Program} {w : World} {K : PySem.W.Frag} {mg : Str → Option Value} {base : Heap} {k : Nat} {f : Addr} {fd : FuncData} {x qual : Str} {st : Stmt} {N : List Str} {pv : Str} {W : Ct}
theorem fn_bodyStar (F : Fun K x qual st f fd) (S : FnScope N [pv] (defScope st)) (hb : ∀ (y q : Str) (kV doc pm : Value) (an : Option Addr) (cdv ct : Value) (rest : List Value), bindArgs (PySem.W.fnOf y q (defArgs st) (defBody st) (defScope st) .none kV doc pm an cdv ct) ⟨rest, []⟩ = (newTuple rest >>= fun t => pure [(pv, t)]))
    (hlen : ∀ ds M R Z, W ds M R Z → ds.length = 1) (hmax : ∀ ds M R Z, W [.tup ds] M R Z → ds.length ≤ 100000) (h : BodyOk P w K mg base N [pv] qual st k W) : FnR P w K mg base (L2N.CX P w) (k + 1) f (spC K fun ds M R Z => W [.tup ds] M R Z) := by
  obtain ⟨oc, od, kV, doc, pm, an, cdv, ct, osl, rfl, lk, hcd⟩ := F.ex
  have G := StX.fn_star (P := P) (w := w) (mg := mg) (base := base) (k := k) (CX := L2N.CX P w) (ps := []) (sp := spC K W) lk hcd S cxUpN (fun us rest hus => by
    have : us = [] := by simpa using hus
    subst this
    exact hb _ _ _ _ _ _ _ _ rest) (fun A outer s H vs Q E hr hs => ⟨_, pss_w, ?_⟩)
  · refine FnR.imp G fun vs H Q E ⟨F', M, ds, R, Z, s0, r, hw, hq, he⟩ => ⟨[], vs, rfl, rfl, by rw [r.len]; exact Nat.le_trans (hmax _ _ _ _ hw) (by decide), fun p hp => ?_⟩
    have g0 := gr_new (o := .tup vs) s0 hp
    exact ⟨_, M, [.tup ds], R, Z, s0.new hp, Reps.one ⟨p, vs, rfl, SqT.of upd_same, Reps.mono g0.sub _ r⟩, hw, fun d M' v F1 H1 hR hd g s1 rv => hq d M' v F1 H1 hR hd (g0.trans' g) s1 rv, fun C ks fs M' dd ws F1 H1 hZ hd g s1 h1 h2 h3 => he C ks fs M' dd ws F1 H1 hZ hd (g0.trans' g) s1 h1 h2 h3⟩
  · obtain ⟨F', M, ds, R, Z, s0, r, hw, hq, he⟩ := hs
    have hl := hlen ds M R Z hw
    have z := h f cdv A outer s H E ds M R Z hr hl hw ⟨F', H, dom M⟩ (L2.start N vs) H { nx := fun _ H' => Q .non H', rt := Q }
    refine z ⟨fun G' M' σ' H' ⟨N', M2, e, hd, hR⟩ hN => ?_, fun d M' v F1 H1 ⟨N', M2, e, hd, hR⟩ hm g s1 rv => ?_, fun _ _ _ _ z _ => z.elim, fun _ _ _ _ z _ => z.elim⟩ ?_ ⟨F', Gr.refl _ _ _, s0, ?_, fun a ha => .inl ha⟩
    · obtain ⟨F1, g, s1, _, _⟩ := hN
      subst e
      exact hq .non M2 .non F1 H' hR hd g s1.drop rfl
    · subst e
      exact hq d M2 v F1 H1 hR hd g s1.drop rv
    · refine ⟨fun cls d _ H => E cls d H, L2N.takes_of rfl rfl rfl rfl, fun G' C ks fs M' dd ws σ' F1 H1 ⟨N', M2, e, hd, hZ⟩ hm g s1 _ h1 h2 h3 => ?_⟩
      subst e
      exact he C ks fs M2 dd ws F1 H1 hZ hd g s1.drop h1 h2 h3
    · unfold L2.start
      rw [r.len]
      exact RepS.start r _
end
end HM

set_option Elab.async false
set_option linter.all false
set_option maxRecDepth 100000
set_option maxHeartbeats 4000000
/-! HD: defs called where an exception is handled, their promise told of that very exception. -/
namespace HM
open PySem PySem.Spec PyProof.Rows L2 L2H
def FnHP (P : Program) (w : World) (K : PySem.W.Frag) (mg : Str → Option Value) (base : Heap) (k : Nat) (f : Addr) (sp : Addr × Obj → Sp) : Prop :=
  ∀ (A : Around) (outer : List Env) (s : Shared) (H : Hp) (us : List Value) (vs : List V) (Q : VK) (E : XK) (p : Addr × Obj), RoomH k A → Hot1 A p → PinOk outer H s p → Env0 P w K mg base A outer s H → Vals vs us → sp p vs H Q E →
    codeAny (model P w) A (.call (.ref f) ⟨us, []⟩) (CR (L2N.CX P w) outer P w H s Q E) s
def DfH (P : Program) (w : World) (K : PySem.W.Frag) (mg : Str → Option Value) (base : Heap) (x : Str) (k : Nat) (W : Addr × Obj → Ct) : Prop :=
  ∃ f : Addr, mg x = some (.ref f) ∧ PySem.W.keepIn K (.ref f) = true ∧ FnHP P w K mg base k f fun p => spC K (W p)
abbrev XdH (P : Program) (w : World) (K : PySem.W.Frag) (mg : Str → Option Value) (base : Heap) (N : List Str) (qual : Str) (st : Stmt) (f : Addr) (cdv : Value) (A : Around) (outer : List Env) (s : Shared) (H : Hp) (E : XK) (p : Addr × Obj) : Cx :=
  cxH (L2N.CX P w) P w K mg base N qual (defScope st) f cdv A outer s H E p
def BodyOkH (P : Program) (w : World) (K : PySem.W.Frag) (mg : Str → Option Value) (base : Heap) (N ps : List Str) (qual : Str) (st : Stmt) (k : Nat) (W : Addr × Obj → Ct) : Prop :=
  ∀ (f : Addr) (cdv : Value) (A : Around) (outer : List Env) (s : Shared) (H : Hp) (E : XK) (p : Addr × Obj) (ds : List Dt) (M : Mst) (R : Dt → Mst → Prop) (Z : Er), RoomH k (XdH P w K mg base N qual st f cdv A outer s H E p).A → Hot1 (XdH P w K mg base N qual st f cdv A outer s H E p).A p → ds.length = ps.length → W p ds M R Z →
    SS (XdH P w K mg base N qual st f cdv A outer s H E p) (defBody st) (ds.map some ++ List.replicate (N.length - ds.length) none) M (PoF M R Z)
section
variable {P : Program} {w : World} {K : PySem.W.Frag} {mg : Str → Option Value} {base : Heap} {k : Nat} {f : Addr} {fd : FuncData} {x qual : Str} {st : Stmt} {N ps : List Str} {W : Addr × Obj → Ct}
theorem fn_bodyH (F : Fun K x qual st f fd) (S : FnScope N ps (defScope st)) (hb : Binds K fd ps []) (hlen : ∀ p ds M R Z, W p ds M R Z → ds.length = ps.length) (h : BodyOkH P w K mg base N ps qual st k W) : FnHP P w K mg base (k + 1) f fun p => spC K (W p) := by
  obtain ⟨oc, od, kV, doc, pm, an, cdv, ct, osl, rfl, lk, hcd⟩ := F.ex
  intro A outer s H us vs Q E p hr hot hpin e0 r hsp
  obtain ⟨F', M, ds, R, Z, s0, rd, hw, hq, he⟩ := hsp
  have hl := hlen p ds M R Z hw
  have hvl : vs.length = ps.length := by rw [rd.len]; exact hl
  have hul : us.length = ps.length := r.length.symm.trans hvl
  have KX : K.In s.heap := e0.mod.kin.keeps fun b o e => (e0.bs b o e).1
  have lim : s.heap.NoLimit := e0.mod.nolimit.keeps fun b o e => (e0.bs b o e).1
  have hkind : ∀ y ∈ ps.zip us, (defScope st).names.lookup y.1 = some .local ∨ ((defScope st).names.lookup y.1 = some .cell ∧ ((cellsFrom (s.heap.objs.size + 1) (defScope st).names []).lookup y.1).isSome = true) := fun ⟨n, v⟩ hy => by
    rcases S.par n (List.of_mem_zip hy).1 with q | q
    · exact .inl q
    · exact .inr ⟨q, PySem.W.cellsFrom_some _ _ _ (.inl q)⟩
  have bnd := hb s us KX (by rw [List.append_nil]; exact hul)
  rw [List.append_nil] at bnd
  refine codeAny_call_function hr.depth (KX _ _ lk) rfl S.co S.gen rfl (PySem.W.codeRec_of KX hcd) (bnd _ _ _ _ ?_)
  refine wpAny_newFunctionEnv_cells S.kind hkind fun env he' s1 x => ?_
  subst he'
  refine ⟨lim.keeps x.toInCall.keep, codeAny_func ?_⟩
  have I : Inv (XdH P w K mg base N qual st f cdv A outer s H E p) [] (L2.start N vs) H s1 := inv_startH S hpin e0 hvl r x
  have z := h f cdv A outer s H E p ds M R Z (hr.deeper _) hot hl hw ⟨F', H, dom M⟩ (L2.start N vs) H { nx := fun _ H' => Q .non H', rt := Q } ⟨fun G' M' σ' H' ⟨N', M2, e, hd, hR⟩ hN => ?_, fun d M' v F1 H1 ⟨N', M2, e, hd, hR⟩ hm g s1 rv => ?_, fun _ _ _ _ z _ => z.elim, fun _ _ _ _ z _ => z.elim⟩ ?_ ⟨F', Gr.refl _ _ _, s0, ?_, fun a ha => .inl ha⟩
  · refine wpAny_mono (z [] s1 I) (fun fl s' hs => ?_) fun e s' hs => hs
    have fin : ∀ {σ' : L2.St} {H' : Hp} {v : V} {u : Value}, Inv (XdH P w K mg base N qual st f cdv A outer s H E p) [] σ' H' s' → RelV v u → Q v H' → CE outer P w H s Q u s' :=
      fun {σ' H' v u} J rv q => ⟨v, H', J.os, J.bare, J.base, J.hok, rv, q⟩
    cases fl with
    | ret u =>
      obtain ⟨v, σ', H', J, rv, q⟩ := hs
      exact fin J rv q
    | next =>
      obtain ⟨σ', H', J, q⟩ := hs
      exact fin (v := V.non) (u := Value.none) J rfl q
    | brk =>
      obtain ⟨_, _, _, q⟩ := hs
      exact False.elim q
    | cont =>
      obtain ⟨_, _, _, q⟩ := hs
      exact False.elim q
  · obtain ⟨F1, g, s1, _, _⟩ := hN
    subst e
    exact hq .non M2 .non F1 H' hR hd g s1.drop rfl
  · subst e
    exact hq d M2 v F1 H1 hR hd g s1.drop rv
  · refine ⟨fun cls d _ H => E cls d H, L2N.takes_of rfl rfl rfl rfl, fun G' C ks fs M' dd ws σ' F1 H1 ⟨N', M2, e, hd, hZ⟩ hm g s1 _ h1 h2 h3 => ?_⟩
    subst e
    exact he C ks fs M2 dd ws F1 H1 hZ hd g s1.drop h1 h2 h3
  · unfold L2.start
    rw [rd.len]
    exact RepS.start rd _
end
section
variable {X : Cx} {e : Expr} {es : List Expr} {G : List (Option Dt)} {M M1 M2 : Mst} {d : Dt} {ds : List Dt} {pos apos : Pos} {x : Str}
/-- x(e, ..), where an exception is handled -/
theorem ex_callH {j i : Nat} {W : Addr × Obj → Ct} {p : Addr × Obj} (F : DfH X.prog X.w X.K X.mg X.base x j W) (hr : RoomH i X.A) (hot : Hot1 X.A p) (hp : p ∈ X.pn) (ha : AX X (e :: es) G M ds M1) (hw : W p ds M1 (fun d' M' => d' = d ∧ M' = M2) E00) (hd : dom M2 = dom M1 := by rfl) (hj : j ≤ i := by decide)
    (hg : Gl X x := by rfl) (hdb : (x == ("__debug__" : Str)) = false := by decide) (he : starEach (e :: es) X.env = (false, eval e X.env) :: starEach es X.env := by rfl) (hpl : (backTo pos (starEach es X.env)).any (·.1) = false := by rfl) :
    EX X (.Call (.Name x apos) (e :: es) [] pos) G M d M2 := by
  obtain ⟨f, hm, hk, F⟩ := F
  refine ⟨hd.trans ha.1, fun σ F' H Q rs s q pins st I => ?_⟩
  refine wpAny_Call_Name_kw (ld_glob I hg hm ?_ hdb)
  refine PySem.W.callWith_K (h₀ := X.base) I.ok.mod.kin hk (thn (pa_w.run pos pins st σ H (fun vs H1 => ∃ F1, Gr (dom M) F' H F1 H1 ∧ Sta X.K F1 M1 H1 ∧ Reps X.K F1 ds vs) I (ha.2 σ F' H _ rs s fun vs F1 H1 g1 s1 r1 => ⟨F1, g1, s1, r1⟩)) fun us s1 ⟨vs, H1, I1, r, F1, g1, st1, r1⟩ => ⟨I1.kIn, ?_⟩) he hpl
  have P1 := I1.pin p (List.mem_append_left _ hp)
  have hpin : PinOk X.stack H1 s1 p := ⟨P1.1, P1.2.1, fun hm => (List.mem_cons.mp (I1.stkSub p.1 hm)).elim P1.2.2.1 P1.2.2.2.1, P1.2.2.2.2⟩
  refine wpAny_call (codeAny_mono (F X.A X.stack s1 H1 us vs Q (fun _ _ _ => False) p (hr.mono hj) hot hpin I1.env0 r ⟨F1, M1, ds, _, _, st1, r1, hw, fun d' M' v F2 H2 ⟨e1, e2⟩ _ g s' rv => ?_, fun _ _ _ _ _ _ _ _ z => z.elim⟩) fun r s' hq => ?_)
  · subst e1 e2
    exact q v F2 H2 (gr2 ha.1 g1 g) s' rv
  · cases r with
    | error e =>
      obtain ⟨_, _, _, _, _, _, _, _, _, _, _, _, z⟩ := (show L2N.CX X.prog X.w X.stack H1 s1 (fun _ _ _ => False) e s' from hq)
      exact z.elim
    | ok fl =>
      cases fl with
      | ret u => exact I1.after hq
      | next => exact False.elim hq
      | brk => exact False.elim hq
      | cont => exact False.elim hq
/-- the context of an except suite is hot -/
theorem hot_suite {a : Addr} {oe : Obj} {cls : Value} {d : Option Addr} {pn : List (Addr × Obj)} (hz : L2N.Zn cls d oe) (hf : ∃ vs, oe.data = .fields vs) : Hot1 (X.suite a ((a, oe) :: pn)).A (a, oe) := by
  obtain ⟨vs, e⟩ := hf
  exact ⟨rfl, vs, e, hz.2.2 vs e⟩
end
end HM

set_option Elab.async false
set_option linter.all false
set_option maxRecDepth 100000
set_option maxHeartbeats 4000000
namespace K1
open PySem PySem.Spec PyProof.Rows L2 HM TX
/-- what the module's names stand for -/
structure Bl (mg : Str → Option Value) : Prop where
  isi : mg "isinstance" = none
  len : mg "len" = none
  int : mg "int" = none
  bool : mg "bool" = none
  str : mg "str" = none
  tuple : mg "tuple" = none
  list : mg "list" = none
  dict : mg "dict" = none
  range : mg "range" = none
  abs : mg "abs" = none
  max : mg "max" = none
  all : mg "all" = none
  sorted : mg "sorted" = none
  repr : mg "repr" = none
  gcd : mg "gcd" = some (.builtin "math.gcd")
  lcm : mg "lcm" = some (.builtin "math.lcm")
def isNum : Dt → Bool
  | .int _ => true
  | _ => false
theorem isNum_eq (d : Dt) : (isI d && !isB d) = isNum d := by cases d <;> rfl
/-- is_number, _law_number -/
def cNum : Ct := fun ds M R _ => ∃ d, ds = [d] ∧ d.kn = true ∧ R (.bl (isNum d)) M
/-- a fraction, as is_fraction has it -/
def isFr : Dt → Bool
  | .int i => decide (0 ≤ i)
  | .tup [.int a, .int b] => decide (0 ≤ a) && decide (1 ≤ b)
  | _ => false
theorem isNum_int {d : Dt} (h : isNum d = true) : ∃ i, d = .int i := by
  cases d <;> first | exact ⟨_, rfl⟩ | simp [isNum] at h
theorem isFr_len {l : List Dt} (h : l.length ≠ 2) : isFr (.tup l) = false := by
  match l, h with
  | [], _ => rfl
  | [a], _ => cases a <;> rfl
  | [_, _], h => exact absurd rfl h
  | a :: b :: c :: r, _ => cases a <;> cases b <;> rfl
theorem isFr_num {a b : Dt} (h : isNum a = false ∨ isNum b = false) : isFr (.tup [a, b]) = false := by
  cases a <;> first | rfl | skip
  cases b <;> first | rfl | skip
  rcases h with h | h <;> simp [isNum] at h
def cIsFr : Ct := fun ds M R _ => ∃ d, ds = [d] ∧ d.kn = true ∧ (∀ l, d = .tup l → l.all Dt.kn = true) ∧ R (.bl (isFr d)) M
section
variable {P : Program} {w : World} {K : PySem.W.Frag} {mg : Str → Option Value} {base : Heap}
theorem b_is_number (B : Bl mg) : BodyOk P w K mg base N_is_number ["value"] "is_number" s_is_number 0 cNum := by
  intro f cdv A outer s H E ds M R Z hr hl ⟨d, e, hk, hR⟩
  subst e
  exact ss_one (s1_ret (EE.is (ex_and (ex_isi (isi_I hk) B.isi B.int (ex_nm 0)) (fun _ => ex_one (ex_not (ex_isi (isi_B hk) B.isi B.bool (ex_nm 0))))) (congrArg Dt.bl (isNum_eq d))) (.of hR))
theorem b_is_fraction (B : Bl mg) (D : Df P w K mg base "is_number" 1 cNum) : BodyOk P w K mg base N_is_fraction ["value"] "is_fraction" s_is_fraction 1 cIsFr := by
  intro f cdv A outer s H E ds M R Z hr hl ⟨d, e, hk, hkk, hR⟩
  subst e
  have c1 : EX (Xd P w K mg base N_is_fraction "is_fraction" s_is_fraction f cdv A outer s H E) (.Name "value" default) [some d, none, none] M d M := ex_nm 0
  refine ss_cons (s1_if (tx_val (ex_call D hr (ax_cons (ex_nm 0) ax_nil) ⟨d, rfl, hk, rfl, rfl⟩)) (fun h => ?_) fun h => ?_)
  · cases d with
    | int i => exact ss_one (s1_ret (ex_cp (ex_nm 0) ex_int c_ge) (.of hR))
    | _ => cases h
  · refine ss_nil ?_
    have no : ∀ d : Dt, d.kn = true → isNum d = false → isT d = false → isFr d = false := fun d _ h1 h2 => by cases d <;> first | rfl | (cases h1; done) | (cases h2; done)
    cases hT : isT d with
    | false =>
      refine ss_cons (s1_if (k := true || false) (tx_w (wx_or (tx_not ((tx_val (ex_isi (isi_T hk) B.isi B.tuple (ex_nm 0))).is hT)) fun h2 => absurd h2 (by simp))) (fun _ => ss_one (s1_ret (ex_bl.is (congrArg Dt.bl (no d hk h hT).symm)) (.of hR))) fun h2 => absurd h2 (by simp))
    | true =>
      cases d with
      | tup l =>
        refine ss_cons (s1_if (tx_w (wx_or (tx_not (tx_val (ex_isi (isi_T hk) B.isi B.tuple (ex_nm 0)))) fun _ => wx_or1 (tx_cp (ex_len len_tup B.len (ex_nm 0)) ex_int c_neI))) (fun h2 => ?_) fun h2 => ?_)
        · have hl2 : l.length ≠ 2 := by
            simp [isT] at h2
            omega
          exact ss_one (s1_ret (ex_bl.is (congrArg Dt.bl (isFr_len hl2).symm)) (.of hR))
        · have hl2 : l.length = 2 := by
            simp [isT] at h2
            omega
          match l, hl2, hkk with
          | [a, b], _, hkk =>
            have hab := hkk [a, b] rfl
            have ha : a.kn = true := by simp at hab; exact hab.1
            have hb : b.kn = true := by simp at hab; exact hab.2
            refine ss_nil (ss_cons (s1_asg (ex_nm 0) (gx_tup rfl (gxs_cons (gx_nm 1 sc_is_fraction.nd) (gxs_cons (gx_nm 2 sc_is_fraction.nd) gxs_nil))) ?_))
            refine ss_one (s1_ret (EE.is (ex_and (ex_call D hr (ax_cons (ex_nm 1) ax_nil) ⟨a, rfl, ha, rfl, rfl⟩) fun h1 => ex_and (ex_call D hr (ax_cons (ex_nm 2) ax_nil) ⟨b, rfl, hb, rfl, rfl⟩) fun h3 => (?_ : EX _ _ _ M (.bl (isFr (.tup [a, b]))) M)) ?_) (.of hR))
            · obtain ⟨x, rfl⟩ := isNum_int h1
              obtain ⟨y, rfl⟩ := isNum_int h3
              exact EE.is (ex_and (ex_cp (ex_nm 1) ex_int c_ge) fun _ => ex_one (ex_cp (ex_nm 2) ex_int c_ge)) rfl
            · congr 1
              cases h1 : isNum a with
              | false => rw [isFr_num (.inl h1)]; rfl
              | true =>
                cases h2 : isNum b with
                | false => rw [isFr_num (.inr h2)]; rfl
                | true => rfl
      | _ => cases hT
end
end K1

set_option Elab.async false
set_option linter.all false
set_option maxRecDepth 100000
set_option maxHeartbeats 4000000
/-! K2: the classes; _check, _reduced. -/
namespace K1
open PySem PySem.Spec PyProof.Rows L2 HM TX XN
abbrev cks (i : Nat) : List Str := xks (cps i)
abbrev cfs (i : Nat) (ds : List Dt) : List Dt := xds (cnm i) ds
structure Cls (P : Program) (K : PySem.W.Frag) (mg : Str → Option Value) (cl : Nat → Addr) : Prop where
  xm : ∀ i, i < 20 → Xm P K mg (cnm i) (cl i) (cnm i) (cps i) (iS i)
  me : mg "ModelError" = some (.ref (cl 20))
  mi : mg "Missing" = some (.ref (cl 21))
  ec : ∀ i, i < 20 → ExcC K (cl i)
  xf : ∀ i, i < 20 → XfC K (cl i)
  no : ∀ i, i < 20 → ∀ f ∈ (("code" : Str) :: cps i), PySem.W.findIn K (.ref (cl i)) f = some none
  one : ∀ i, i < 20 → ∀ j, j < 22 → PySem.W.kitOne K (.ref (cl i)) (.ref (cl j)) = some (decide (kinN.getD j "" ∈ above i))
  oneB : ∀ i, i < 20 → ∀ T ∈ ["ValueError", "LookupError", "RuntimeError", "KeyError", "IndexError"], PySem.W.kitOne K (.ref (cl i)) (.type T) = some (decide (Str.ofString T ∈ above i))
  ex : ∀ i, i < 20 → ∀ js : List Nat, js ∈ [[1, 2], [3, 4, 5, 6, 7], [11, 18], [15], [17], [20]] → PySem.W.exmAny K (.ref (cl i)) (js.map fun j => .ref (cl j)) = some (js.any fun j => decide (kinN.getD j "" ∈ above i))
def badF (l : List Dt) : Option Dt := l.find? fun d => !isFr d
/-- data that is_fraction can look at -/
def okd (d : Dt) : Bool := d.kn && match d with | .tup l => l.all Dt.kn | _ => true
theorem okd.kn {d : Dt} (h : okd d = true) : d.kn = true := (Bool.and_eq_true_iff.mp h).1
theorem okd.tup {d : Dt} (h : okd d = true) : ∀ l, d = .tup l → l.all Dt.kn = true := fun l e => by
  subst e
  exact (Bool.and_eq_true_iff.mp h).2
theorem isFr.okd {d : Dt} (h : isFr d = true) : okd d = true := by
  cases d with
  | int i => rfl
  | tup l =>
    by_cases hl : l.length = 2
    · match l, hl, h with
      | [a, b], _, h => cases a <;> cases b <;> first | rfl | cases h
    · rw [isFr_len hl] at h
      cases h
  | _ => cases h
theorem badF_none {l : List Dt} : badF l = none ↔ ∀ d ∈ l, isFr d = true := by
  unfold badF
  rw [List.find?_eq_none]
  exact ⟨fun h d hd => by simpa using h d hd, fun h d hd => by simpa using h d hd⟩
theorem badF_at {l : List Dt} {i : Nat} {d : Dt} (h : ∀ x ∈ l.take i, isFr x = true) (hd : l[i]? = some d) (hb : isFr d = false) : badF l = some d := by
  have hlt : i < l.length := (List.getElem?_eq_some_iff.mp hd).1
  have e : l = l.take i ++ d :: l.drop (i + 1) := by
    have h2 := (List.getElem?_eq_some_iff.mp hd).2
    rw [← h2, List.getElem_cons_drop, List.take_append_drop]
  rw [e]
  unfold badF
  rw [List.find?_append, List.find?_eq_none.mpr (fun x hx => by simpa using h x hx)]
  simp [hb]
/-- 'or the exception BadFraction of the first that is none' -/
def orBad (cl : Nat → Addr) (l : List Dt) (Z : Er) (M : Mst) (ok : Prop) : Prop := match badF l with
  | none => ok
  | some b => Z (cl 1) (cks 1) (cfs 1 [b]) M
def cCheck (cl : Nat → Addr) : Ct := fun ds M R Z => ∃ l, ds = [.tup l] ∧ l.all okd = true ∧ orBad cl l Z M (R .non M)
theorem roomD {k : Nat} {A : Around} (r : Room k A) : A.depth + 2 < recursionLimit := by have := r.dp; omega
section
variable {P : Program} {w : World} {K : PySem.W.Frag} {mg : Str → Option Value} {base : Heap} {cl : Nat → Addr}
theorem b_check (C : Cls P K mg cl) (D : Df P w K mg base "is_fraction" 2 cIsFr) : BodyOk P w K mg base N_check ["values"] "_check" s_check 3 (cCheck cl) := by
  intro f cdv A outer s H E ds M R Z hr hl ⟨l, e, hk, hR⟩
  subst e
  refine ss_one (s1_for (fun i G' M' => M' = M ∧ ∃ o, G' = [some (.tup l), o] ∧ ∀ d ∈ l.take i, isFr d = true) (ix_tup (ex_nm 0)) rfl ⟨rfl, none, rfl, fun d hd => by simp at hd⟩ ?_ ?_ (fun i G' M' h => by rw [h.1]) PassesOwn.leaving)
  · rintro i d G' M' hd ⟨rfl, o, rfl, hall⟩
    have hok : okd d = true := List.all_eq_true.mp hk d (List.mem_of_getElem? hd)
    refine ⟨_, gx_nm 1 sc_check.nd, ss_one (s1_if (tx_not (tx_val (ex_call D hr (ax_cons (ex_nm 1) ax_nil) ⟨d, rfl, okd.kn hok, okd.tup hok, rfl, rfl⟩))) (fun h => ?_) fun h => ss_nil ?_)⟩
    · have hb : isFr d = false := by simpa using h
      refine ss_one (s1_raise rfl (C.xm 1 (by decide)) (roomD hr) (ax_cons (ex_nm 1) ax_nil) (show Kept _ (Z _ _ _) _ from Kept.of ?_))
      have := badF_at hall hd hb
      unfold orBad at hR
      rw [this] at hR
      exact hR
    · refine ⟨rfl, some d, rfl, fun x hx => ?_⟩
      rw [List.take_succ, hd] at hx
      rcases List.mem_append.mp hx with hx | hx
      · exact hall x hx
      · have : x = d := by simpa using hx
        subst this
        simpa using h
  · rintro G' M' ⟨rfl, o, rfl, hall⟩
    rw [List.take_length] at hall
    have := badF_none.mpr hall
    unfold orBad at hR
    rw [this] at hR
    exact .of hR
/-- _check(e) -/
theorem s1_check {X : Cx} {e : Expr} {G : List (Option Dt)} {M : Mst} {T : Po} {l : List Dt} {p1 p2 p3 : Pos} {i : Nat} (D : Df X.prog X.w X.K X.mg X.base "_check" 4 (cCheck cl)) (hr : Room i X.A) (he : EX X e G M (.tup l) M) (hk : l.all okd = true) (h1 : badF l = none → T.nx G M) (h2 : ∀ b, badF l = some b → T.er G (cl 1) (cks 1) (cfs 1 [b]) M)
    (hi : 4 ≤ i := by decide) (hg : Gl X "_check" := by rfl) (hs : starEach [e] X.env = (false, eval e X.env) :: starEach [] X.env := by rfl) (hsw : swapsWith (.Call (.Name "_check" p1) [e] [] p2) none p3.line X.env = pure false := by rfl) :
    S1 X (.Expr (.Call (.Name "_check" p1) [e] [] p2) p3) G M T := by
  refine s1_exprZ (ez_call D hr (ax_cons he ax_nil hs) (R := fun _ M' => M' = M ∧ badF l = none) (Z := fun C ks fs M' => ∃ b, badF l = some b ∧ C = cl 1 ∧ ks = cks 1 ∧ fs = cfs 1 [b] ∧ M' = M) ⟨l, rfl, hk, ?_⟩ hi hg (by decide) hs rfl) (fun d M' h _ => ?_) (fun C ks fs M' h _ => ?_) hsw
  · unfold orBad
    split
    · rename_i h
      exact ⟨rfl, h⟩
    · rename_i b h
      exact ⟨b, h, rfl, rfl, rfl, rfl⟩
  · obtain ⟨rfl, h⟩ := h
    exact h1 h
  · obtain ⟨b, h, rfl, rfl, rfl, rfl⟩ := h
    exact h2 b h
end
section
variable {X : Cx} {es : List Expr} {G : List (Option Dt)} {M M1 : Mst} {ds : List Dt} {pos : Pos}
theorem ex_tp {x1} (h : AX X es G M ds M1) (hl : ds.length ≤ 100000 := by simp) : EX X (.Tuple es x1 pos) G M (.tup ds) M1 := ex_tup h hl
theorem ex_ls (h : AX X es G M ds M1) (hl : ds.length ≤ 100000 := by simp) : EX X (.List es pos) G M (.lst ds) M1 := ex_lst h hl
end
/-! ### reduced pairs -/
def lowN (a b : Nat) : Nat × Nat := (a / Nat.gcd a b, b / Nat.gcd a b)
def pr (p : Nat × Nat) : Dt := .tup [.int (p.1 : Int), .int (p.2 : Int)]
/-- the two numbers of a fraction -/
def frN : Dt → Nat × Nat
  | .int i => (i.toNat, 1)
  | .tup [.int a, .int b] => (a.toNat, b.toNat)
  | _ => (0, 1)
def red (d : Dt) : Nat × Nat := lowN (frN d).1 (frN d).2
theorem frN_pos {d : Dt} (h : isFr d = true) : 0 < (frN d).2 := by
  cases d with
  | int i => exact Nat.one_pos
  | tup l =>
    by_cases hl : l.length = 2
    · match l, hl, h with
      | [a, b], _, h =>
        cases a <;> cases b <;> first
          | (cases h; done)
          | skip
        rename_i a b _
        have : 0 ≤ a ∧ 1 ≤ b := by simpa [isFr] using h
        show 0 < b.toNat
        omega
    · rw [isFr_len hl] at h
      cases h
  | _ => cases h
theorem lowN_one (a : Nat) : lowN a 1 = (a, 1) := by simp [lowN]
def cRed : Ct := fun ds M R _ => ∃ d, ds = [d] ∧ isFr d = true ∧ (Nat.gcd (frN d).1 (frN d).2) < 2 ^ 9000 ∧ R (pr (red d)) M
theorem cdivN {a b : Nat} (hb : 0 < b) (h : b < 2 ^ 9000) : CDivW (a : Int) (b : Int) := ⟨by omega, by
  show ((b : Int).natAbs).log2 < 9000
  rw [Int.natAbs_natCast]
  exact (Nat.log2_lt (by omega)).mpr h⟩
theorem isFr_cases {d : Dt} (h : isFr d = true) : (∃ n : Nat, d = .int n) ∨ ∃ a b : Nat, d = .tup [.int a, .int b] ∧ 0 < b := by
  cases d with
  | int i =>
    have h : 0 ≤ i := by simpa [isFr] using h
    exact .inl ⟨i.toNat, by rw [Int.toNat_of_nonneg h]⟩
  | tup l =>
    by_cases hl : l.length = 2
    · match l, hl, h with
      | [a, b], _, h =>
        cases a <;> cases b <;> first
          | (cases h; done)
          | skip
        rename_i a b _
        have : 0 ≤ a ∧ 1 ≤ b := by simpa [isFr] using h
        refine .inr ⟨a.toNat, b.toNat, ?_, by omega⟩
        rw [Int.toNat_of_nonneg this.1, Int.toNat_of_nonneg (by omega)]
    · rw [isFr_len hl] at h
      cases h
  | _ => cases h
section
variable {P : Program} {w : World} {K : PySem.W.Frag} {mg : Str → Option Value} {base : Heap}
theorem b_reduced (B : Bl mg) : BodyOk P w K mg base N_reduced ["value"] "_reduced" s_reduced 0 cRed := by
  intro f cdv A outer s H E ds M R Z hr hl ⟨d, e, hf, hg, hR⟩
  subst e
  rcases isFr_cases hf with ⟨n, rfl⟩ | ⟨a, b, rfl, hb⟩
  · refine ss_cons (s1_if (tx_not (tx_val (ex_isi (isi_T rfl) B.isi B.tuple (ex_nm 0)))) (fun h => ?_) fun h => by cases h)
    refine ss_one (s1_ret (EE.is (ex_tp (ax_cons (ex_nm 0) (ax_cons ex_int ax_nil))) ?_) (.of hR))
    simp [pr, red, frN, lowN_one]
  · refine ss_cons (s1_if (tx_not (tx_val (ex_isi (isi_T rfl) B.isi B.tuple (ex_nm 0)))) (fun h => by cases h) fun h => ss_nil ?_)
    have hg' : Nat.gcd a b < 2 ^ 9000 := by simpa [frN] using hg
    have hg0 : 0 < Nat.gcd a b := Nat.gcd_pos_of_pos_right a hb
    refine ss_cons (s1_asg (ex_nm 0) (gx_tup rfl (gxs_cons (gx_nm 1 sc_reduced.nd) (gxs_cons (gx_nm 2 sc_reduced.nd) gxs_nil))) ?_)
    refine ss_cons (s1_set 3 sc_reduced.nd (ex_gcd B.gcd (ex_nm 1) (ex_nm 2)) ?_)
    refine ss_one (s1_ret (EE.is (ex_tp (ax_cons (ex_bin (ex_nm 1) (ex_nm 3) (o_div (cdivN hg0 hg'))) (ax_cons (ex_bin (ex_nm 2) (ex_nm 3) (o_div (cdivN hg0 hg'))) ax_nil))) ?_) (.of hR))
    simp [pr, red, frN, lowN]
end
end K1

set_option Elab.async false
set_option linter.all false
set_option maxRecDepth 100000
set_option maxHeartbeats 4000000
set_option exponentiation.threshold 100000
/-! K3: lowest, plus, times, quotient, apart, is_less. -/
namespace K1
open PySem PySem.Spec PyProof.Rows L2 HM TX XN
/-! ### plain arithmetic -/
theorem lowN_pos {a b : Nat} (hb : 0 < b) : 0 < (lowN a b).2 := Nat.div_pos (Nat.le_of_dvd hb (Nat.gcd_dvd_right a b)) (Nat.gcd_pos_of_pos_right a hb)
theorem lowN_cop {a b : Nat} (hb : 0 < b) : Nat.gcd (lowN a b).1 (lowN a b).2 = 1 := by
  show Nat.gcd (a / Nat.gcd a b) (b / Nat.gcd a b) = 1
  rw [Nat.gcd_div (Nat.gcd_dvd_left a b) (Nat.gcd_dvd_right a b), Nat.div_self (Nat.gcd_pos_of_pos_right a hb)]
theorem lowN_cross (a b : Nat) : a * (lowN a b).2 = (lowN a b).1 * b := by
  obtain ⟨k, hk⟩ := Nat.gcd_dvd_left a b
  obtain ⟨m, hm⟩ := Nat.gcd_dvd_right a b
  unfold lowN
  rcases Nat.eq_zero_or_pos (Nat.gcd a b) with h | h
  · have := Nat.gcd_eq_zero_iff.mp h
    simp [this.1, this.2]
  · have e1 : a / Nat.gcd a b = k := Nat.div_eq_of_eq_mul_right h hk
    have e2 : b / Nat.gcd a b = m := Nat.div_eq_of_eq_mul_right h hm
    show a * (b / Nat.gcd a b) = a / Nat.gcd a b * b
    rw [e1, e2]
    generalize Nat.gcd a b = g at hk hm
    rw [hk, hm]
    ac_rfl
theorem lowN_of {a b : Nat} {S : Nat × Nat} (hb : 0 < b) (hS : 0 < S.2) (hc : Nat.gcd S.1 S.2 = 1) (h : a * S.2 = S.1 * b) : lowN a b = S := by
  have d : S.2 ∣ b := (Nat.Coprime.symm hc : Nat.Coprime S.2 S.1).dvd_of_dvd_mul_left ⟨a, by rw [← h, Nat.mul_comm]⟩
  obtain ⟨k, rfl⟩ := d
  have hk : 0 < k := Nat.pos_of_mul_pos_left hb |> fun _ => by
    rcases Nat.eq_zero_or_pos k with z | z
    · subst z; simp at hb
    · exact z
  have e : a = S.1 * k := by
    apply Nat.eq_of_mul_eq_mul_right hS
    rw [h]
    ac_rfl
  subst e
  unfold lowN
  have g : Nat.gcd (S.1 * k) (S.2 * k) = k := by rw [Nat.gcd_mul_right, hc, Nat.one_mul]
  rw [g, Nat.mul_div_cancel _ hk, Nat.mul_div_cancel _ hk]
def addN (x y : Nat × Nat) : Nat × Nat := lowN (x.1 * y.2 + y.1 * x.2) (x.2 * y.2)
def byN (x y : Nat × Nat) : Nat × Nat := lowN (x.1 * y.1) (x.2 * y.2)
def gapN (x y : Nat × Nat) : Nat × Nat := lowN ((x.1 * y.2 : Int) - (y.1 * x.2 : Int)).natAbs (x.2 * y.2)
def total (l : List (Nat × Nat)) : Nat × Nat := l.foldl addN (0, 1)
def prodN (l : List (Nat × Nat)) : Nat × Nat := l.foldl byN (1, 1)
def Red (p : Nat × Nat) : Prop := 0 < p.2 ∧ Nat.gcd p.1 p.2 = 1
theorem Red.low {a b : Nat} (hb : 0 < b) : Red (lowN a b) := ⟨lowN_pos hb, lowN_cop hb⟩
theorem Red.is {p : Nat × Nat} (h : Red p) : lowN p.1 p.2 = p := lowN_of h.1 h.1 h.2 rfl
theorem Red.red {d : Dt} (h : isFr d = true) : Red (red d) := Red.low (frN_pos h)
theorem total_snoc (l : List (Nat × Nat)) (y : Nat × Nat) : total (l ++ [y]) = addN (total l) y := by simp [total]
theorem prodN_snoc (l : List (Nat × Nat)) (y : Nat × Nat) : prodN (l ++ [y]) = byN (prodN l) y := by simp [prodN]
theorem total_red : ∀ (l : List (Nat × Nat)) (x : Nat × Nat), Red x → (∀ y ∈ l, 0 < y.2) → Red (l.foldl addN x)
  | [], x, h, _ => h
  | y :: l, x, h, hl => total_red l _ (Red.low (Nat.mul_pos h.1 (hl y List.mem_cons_self))) fun z hz => hl z (List.mem_cons_of_mem _ hz)
theorem prodN_red : ∀ (l : List (Nat × Nat)) (x : Nat × Nat), Red x → (∀ y ∈ l, 0 < y.2) → Red (l.foldl byN x)
  | [], x, h, _ => h
  | y :: l, x, h, hl => prodN_red l _ (Red.low (Nat.mul_pos h.1 (hl y List.mem_cons_self))) fun z hz => hl z (List.mem_cons_of_mem _ hz)
/-- the step of plus -/
theorem plus_step {t b o u : Nat} {S : Nat × Nat} (hb : 0 < b) (hu : 0 < u) (hS : 0 < S.2) (h : t * S.2 = S.1 * b) :
    (t * (u / Nat.gcd b u) + o * (b / Nat.gcd b u)) * (addN S (o, u)).2 = (addN S (o, u)).1 * (b / Nat.gcd b u * u) := by
  have hg : 0 < Nat.gcd b u := Nat.gcd_pos_of_pos_left u hb
  obtain ⟨b1, hb1⟩ := Nat.gcd_dvd_left b u
  obtain ⟨u1, hu1⟩ := Nat.gcd_dvd_right b u
  have e1 : b / Nat.gcd b u = b1 := Nat.div_eq_of_eq_mul_right hg hb1
  have e2 : u / Nat.gcd b u = u1 := Nat.div_eq_of_eq_mul_right hg hu1
  rw [e1, e2]
  generalize Nat.gcd b u = c at hb1 hu1 hg
  have key : (t * u1 + o * b1) * (S.2 * u) = (S.1 * u + o * S.2) * (b1 * u) := by
    have h2 : t * S.2 = S.1 * (c * b1) := by rw [← hb1]; exact h
    have a1 : t * u1 * (S.2 * u) = S.1 * u * (b1 * u) := by
      calc t * u1 * (S.2 * u) = (t * S.2) * (u1 * u) := by ac_rfl
        _ = S.1 * (c * b1) * (u1 * u) := by rw [h2]
        _ = S.1 * (c * u1) * (b1 * u) := by ac_rfl
        _ = S.1 * u * (b1 * u) := by rw [← hu1]
    rw [Nat.add_mul, Nat.add_mul, a1]
    congr 1
    ac_rfl
  have cr := lowN_cross (S.1 * u + o * S.2) (S.2 * u)
  have p0 : 0 < S.2 * u := Nat.mul_pos hS hu
  show _ * (lowN _ _).2 = (lowN _ _).1 * _
  apply Nat.eq_of_mul_eq_mul_right p0
  calc (t * u1 + o * b1) * (lowN (S.1 * u + o * S.2) (S.2 * u)).2 * (S.2 * u) = ((t * u1 + o * b1) * (S.2 * u)) * (lowN (S.1 * u + o * S.2) (S.2 * u)).2 := by ac_rfl
    _ = ((S.1 * u + o * S.2) * (lowN (S.1 * u + o * S.2) (S.2 * u)).2) * (b1 * u) := by rw [key]; ac_rfl
    _ = (lowN (S.1 * u + o * S.2) (S.2 * u)).1 * (S.2 * u) * (b1 * u) := by rw [cr]
    _ = (lowN (S.1 * u + o * S.2) (S.2 * u)).1 * (b1 * u) * (S.2 * u) := by ac_rfl
/-! ### sizes -/
/-- both numbers are at most 2 ^ k -/
def Sz (k : Nat) (p : Nat × Nat) : Prop := p.1 ≤ 2 ^ k ∧ p.2 ≤ 2 ^ k
theorem Sz.mono {j k : Nat} {p : Nat × Nat} (h : Sz j p) (hk : j ≤ k) : Sz k p := ⟨Nat.le_trans h.1 (Nat.pow_le_pow_right (by decide) hk), Nat.le_trans h.2 (Nat.pow_le_pow_right (by decide) hk)⟩
theorem lowN_le (a b : Nat) : (lowN a b).1 ≤ a ∧ (lowN a b).2 ≤ b := ⟨Nat.div_le_self _ _, Nat.div_le_self _ _⟩
theorem Sz.low {k a b : Nat} (h : Sz k (a, b)) : Sz k (lowN a b) := ⟨Nat.le_trans (lowN_le a b).1 h.1, Nat.le_trans (lowN_le a b).2 h.2⟩
theorem Sz.red {k : Nat} {d : Dt} (h : Sz k (frN d)) : Sz k (K1.red d) := Sz.low h
theorem mulP {a b i j : Nat} (ha : a ≤ 2 ^ i) (hb : b ≤ 2 ^ j) : a * b ≤ 2 ^ (i + j) := by
  rw [Nat.pow_add]
  exact Nat.mul_le_mul ha hb
theorem addP {a b i : Nat} (ha : a ≤ 2 ^ i) (hb : b ≤ 2 ^ i) : a + b ≤ 2 ^ (i + 1) := by
  rw [Nat.pow_succ]
  omega
theorem lt_pow_succ {a i : Nat} (h : a ≤ 2 ^ i) : a < 2 ^ (i + 1) := Nat.lt_of_le_of_lt h (Nat.pow_lt_pow_right (by decide) (Nat.lt_succ_self i))
theorem cmulN {a b i j : Nat} (ha : a ≤ 2 ^ i) (hb : b ≤ 2 ^ j) (h : i + j ≤ 134000000) : CMulX (a : Int) (b : Int) := mulx_ok (a := i + 1) (b := j + 1) (by simpa using lt_pow_succ ha) (by simpa using lt_pow_succ hb) (by omega)
theorem gcd_le_of {a b i : Nat} (hb : 0 < b) (h : b ≤ 2 ^ i) (hi : i < 9000) : Nat.gcd a b < 2 ^ 9000 :=
  Nat.lt_of_le_of_lt (Nat.le_trans (Nat.le_of_dvd hb (Nat.gcd_dvd_right a b)) h) (Nat.pow_lt_pow_right (by decide) hi)
theorem orBad.ok {cl : Nat → Addr} {l : List Dt} {Z : Er} {M : Mst} {o : Prop} (h : badF l = none) (q : orBad cl l Z M o) : o := by
  unfold orBad at q
  rw [h] at q
  exact q
theorem orBad.bad {cl : Nat → Addr} {l : List Dt} {Z : Er} {M : Mst} {o : Prop} {b : Dt} (h : badF l = some b) (q : orBad cl l Z M o) : Z (cl 1) (cks 1) (cfs 1 [b]) M := by
  unfold orBad at q
  rw [h] at q
  exact q
/-! ### promises -/
/-- of fractions: at most 2 ^ k -/
def FrS (k : Nat) (d : Dt) : Prop := isFr d = true → Sz k (frN d)
def cLowest (cl : Nat → Addr) : Ct := fun ds M R Z => ∃ d, ds = [d] ∧ okd d = true ∧ FrS 8000 d ∧ orBad cl [d] Z M (R (pr (red d)) M)
def cPlus (cl : Nat → Addr) : Ct := fun ds M R Z => ∃ l, ds = [.tup l] ∧ l.length ≤ 5 ∧ l.all okd = true ∧ (∀ d ∈ l, FrS 200 d) ∧ orBad cl l Z M (R (pr (total (l.map red))) M)
def cTimes (cl : Nat → Addr) : Ct := fun ds M R Z => ∃ l, ds = [.tup l] ∧ l.length ≤ 5 ∧ l.all okd = true ∧ (∀ d ∈ l, FrS 200 d) ∧ orBad cl l Z M (R (pr (prodN (l.map red))) M)
def cQuot (cl : Nat → Addr) : Ct := fun ds M R Z => ∃ a b, ds = [a, b] ∧ [a, b].all okd = true ∧ FrS 200 a ∧ FrS 200 b ∧ orBad cl [a, b] Z M (if (red b).1 = 0 then Z (cl 1) (cks 1) (cfs 1 [b]) M else R (pr (lowN ((red a).1 * (red b).2) ((red a).2 * (red b).1))) M)
def cApart (cl : Nat → Addr) : Ct := fun ds M R Z => ∃ a b, ds = [a, b] ∧ [a, b].all okd = true ∧ FrS 200 a ∧ FrS 200 b ∧ orBad cl [a, b] Z M (R (pr (gapN (red a) (red b))) M)
def cLess (cl : Nat → Addr) : Ct := fun ds M R Z => ∃ a b, ds = [a, b] ∧ [a, b].all okd = true ∧ FrS 200 a ∧ FrS 200 b ∧ orBad cl [a, b] Z M (R (.bl (decide ((red a).1 * (red b).2 < (red b).1 * (red a).2))) M)
section
variable {P : Program} {w : World} {K : PySem.W.Frag} {mg : Str → Option Value} {base : Heap} {cl : Nat → Addr}
theorem badF1 {d : Dt} (h : badF [d] = none) : isFr d = true := badF_none.mp h d List.mem_cons_self
theorem b_lowest (C : Cls P K mg cl) (Dc : Df P w K mg base "_check" 4 (cCheck cl)) (Dr : Df P w K mg base "_reduced" 1 cRed) : BodyOk P w K mg base N_lowest ["value"] "lowest" s_lowest 4 (cLowest cl) := by
  intro f cdv A outer s H E ds M R Z hr hl ⟨d, e, hk, hs, hR⟩
  subst e
  refine ss_cons (s1_check Dc hr (ex_tp (ax_cons (ex_nm 0) ax_nil)) (by simpa using hk) (fun h => ?_) fun b h => .of (hR.bad h))
  have hf := badF1 h
  exact ss_one (s1_ret (ex_call Dr hr (ax_cons (ex_nm 0) ax_nil) ⟨d, rfl, hf, gcd_le_of (frN_pos hf) (hs hf).2 (by decide), rfl, rfl⟩) (.of (hR.ok h)))
theorem red_le {k : Nat} {d : Dt} (hf : isFr d = true) (h : FrS k d) : Sz k (red d) := (h hf).red
/-- x, y = _reduced(e) -/
theorem s1_red {X : Cx} {e tg1 tg2 : Expr} {G G1 : List (Option Dt)} {M : Mst} {T : Po} {d : Dt} {p1 p2 p3 p4 : Pos} {k3 : Nat} {i : Nat} (Dr : Df X.prog X.w X.K X.mg X.base "_reduced" 1 cRed) (hc : X.calm = true) (hr : Room i X.A) (he : EX X e G M d M) (hf : isFr d = true) (hs : (Nat.gcd (frN d).1 (frN d).2) < 2 ^ 9000)
    (hg : GXs X [tg1, tg2] G [.int ((red d).1 : Int), .int ((red d).2 : Int)] G1) (h : T.nx G1 M) (hi : 1 ≤ i := by decide) (hgl : Gl X "_reduced" := by rfl) (hst : starEach [e] X.env = (false, eval e X.env) :: starEach [] X.env := by rfl)
    (hn : (assignEach [tg1, tg2] X.env).length = 2 := by rfl) (hst2 : (assignEach [tg1, tg2] X.env).findIdx? (·.1) = none := by rfl)
    (hs2 : swapsWithSole [.Tuple [tg1, tg2] k3 p3] (.Call (.Name "_reduced" p1) [e] [] p2) p4.line X.env = pure false := by rfl) (hw : swappedStores [.Tuple [tg1, tg2] k3 p3] (.Call (.Name "_reduced" p1) [e] [] p2) X.env = pure none := by rfl)
    (h1 : (assignEach [.Tuple [tg1, tg2] k3 p3] X.env).map (·.2) = [assign (.Tuple [tg1, tg2] k3 p3) X.env] := by rfl) : S1 X (.Assign [.Tuple [tg1, tg2] k3 p3] (.Call (.Name "_reduced" p1) [e] [] p2) p4) G M T :=
  s1_asg (ex_call Dr hr (ax_cons he ax_nil hst) (d := pr (red d)) ⟨d, rfl, hf, hs, rfl, rfl⟩ rfl hi hgl (by decide) hst rfl) (gx_tup hc hg hn hst2) h hs2 hw h1
theorem c_decLt {X : Cx} {a b : Nat} : CmpOk X .Lt (.int (a : Int)) (.int (b : Int)) (.bl (decide (a < b))) := by
  have := c_lt (X := X) (i := (a : Int)) (j := (b : Int))
  simpa using this
theorem o_mulN {X : Cx} {a b i j : Nat} (ha : a ≤ 2 ^ i) (hb : b ≤ 2 ^ j) (h : i + j ≤ 134000000) : OpOk X .Mult (.int (a : Int)) (.int (b : Int)) (.int ((a * b : Nat) : Int)) := by
  rw [Int.natCast_mul]
  exact o_mul (cmulN ha hb h)
theorem o_divN {X : Cx} {a b : Nat} (hb : 0 < b) (h : b < 2 ^ 9000) : OpOk X .FloorDiv (.int (a : Int)) (.int (b : Int)) (.int ((a / b : Nat) : Int)) := by
  rw [Int.natCast_ediv]
  exact o_div (cdivN hb h)
theorem o_addN {X : Cx} {a b : Nat} : OpOk X .Add (.int (a : Int)) (.int (b : Int)) (.int ((a + b : Nat) : Int)) := by
  rw [Int.natCast_add]
  exact o_add
theorem badF2 {a b : Dt} (h : badF [a, b] = none) : isFr a = true ∧ isFr b = true := ⟨badF_none.mp h a List.mem_cons_self, badF_none.mp h b (List.mem_cons_of_mem _ List.mem_cons_self)⟩
theorem gs {k : Nat} {d : Dt} (hf : isFr d = true) (hs : FrS k d) (hk : k < 9000 := by decide) : (Nat.gcd (frN d).1 (frN d).2) < 2 ^ 9000 := gcd_le_of (frN_pos hf) (hs hf).2 hk
/-- _reduced((a, b)) -/
theorem ex_red2 {X : Cx} {e1 e2 : Expr} {x1} {G : List (Option Dt)} {M : Mst} {a b : Nat} {p1 p2 p3 : Pos} {i k : Nat} (Dr : Df X.prog X.w X.K X.mg X.base "_reduced" 1 cRed) (hr : Room i X.A) (ha : EX X e1 G M (.int (a : Int)) M) (hb : EX X e2 G M (.int (b : Int)) M) (h0 : 0 < b) (hs : Nat.gcd a b < 2 ^ 9000)
    (hi : 1 ≤ i := by decide) (hgl : Gl X "_reduced" := by rfl) (hst : starEach [.Tuple [e1, e2] x1 p3] X.env = (false, eval (.Tuple [e1, e2] x1 p3) X.env) :: starEach [] X.env := by rfl)
    (hs1 : starEach [e1, e2] X.env = (false, eval e1 X.env) :: starEach [e2] X.env := by rfl) (hs2 : starEach [e2] X.env = (false, eval e2 X.env) :: starEach [] X.env := by rfl) : EX X (.Call (.Name "_reduced" p1) [.Tuple [e1, e2] x1 p3] [] p2) G M (pr (lowN a b)) M := by
  have hf : isFr (.tup [.int (a : Int), .int (b : Int)]) = true := by
    simp [isFr]
    omega
  refine EE.is (ex_call Dr hr (ax_cons (ex_tp (ax_cons ha (ax_cons hb ax_nil hs2) hs1)) ax_nil hst) (d := pr (red (.tup [.int (a : Int), .int (b : Int)]))) ⟨_, rfl, hf, ?_, rfl, rfl⟩ rfl hi hgl (by decide) hst rfl) ?_
  · simpa [frN] using hs
  · simp [red, frN]
theorem b_is_less (C : Cls P K mg cl) (Dc : Df P w K mg base "_check" 4 (cCheck cl)) (Dr : Df P w K mg base "_reduced" 1 cRed) : BodyOk P w K mg base N_is_less ["one", "other"] "is_less" s_is_less 4 (cLess cl) := by
  intro f cdv A outer s H E ds M R Z hr hl ⟨a, b, e, hk, ha, hb, hR⟩
  subst e
  refine ss_cons (s1_check Dc hr (ex_tp (ax_cons (ex_nm 0) (ax_cons (ex_nm 1) ax_nil))) hk (fun h => ?_) fun b h => .of (hR.bad h))
  obtain ⟨fa, fb⟩ := badF2 h
  refine ss_cons (s1_red Dr rfl hr (ex_nm 0) fa (gs fa ha) (gxs_cons (gx_nm 2 sc_is_less.nd) (gxs_cons (gx_nm 3 sc_is_less.nd) gxs_nil)) ?_)
  refine ss_cons (s1_red Dr rfl hr (ex_nm 1) fb (gs fb hb) (gxs_cons (gx_nm 4 sc_is_less.nd) (gxs_cons (gx_nm 5 sc_is_less.nd) gxs_nil)) ?_)
  have za := red_le fa ha
  have zb := red_le fb hb
  exact ss_one (s1_ret (ex_cp (ex_bin (ex_nm 2) (ex_nm 5) (o_mulN za.1 zb.2 (by decide))) (ex_bin (ex_nm 4) (ex_nm 3) (o_mulN zb.1 za.2 (by decide))) c_decLt) (.of (hR.ok h)))
theorem b_quotient (C : Cls P K mg cl) (Dc : Df P w K mg base "_check" 4 (cCheck cl)) (Dr : Df P w K mg base "_reduced" 1 cRed) : BodyOk P w K mg base N_quotient ["one", "other"] "quotient" s_quotient 4 (cQuot cl) := by
  intro f cdv A outer s H E ds M R Z hr hl ⟨a, b, e, hk, ha, hb, hR⟩
  subst e
  refine ss_cons (s1_check Dc hr (ex_tp (ax_cons (ex_nm 0) (ax_cons (ex_nm 1) ax_nil))) hk (fun h => ?_) fun b h => .of (hR.bad h))
  obtain ⟨fa, fb⟩ := badF2 h
  have hR := hR.ok h
  refine ss_cons (s1_red Dr rfl hr (ex_nm 0) fa (gs fa ha) (gxs_cons (gx_nm 2 sc_quotient.nd) (gxs_cons (gx_nm 3 sc_quotient.nd) gxs_nil)) ?_)
  refine ss_cons (s1_red Dr rfl hr (ex_nm 1) fb (gs fb hb) (gxs_cons (gx_nm 4 sc_quotient.nd) (gxs_cons (gx_nm 5 sc_quotient.nd) gxs_nil)) ?_)
  have za := red_le fa ha
  have zb := red_le fb hb
  refine ss_cons (s1_if (tx_cp (ex_nm 4) ex_int c_eqI) (fun q => ?_) fun q => ss_nil ?_)
  · have q : (red b).1 = 0 := by simpa using q
    rw [if_pos q] at hR
    exact ss_one (s1_raise rfl (C.xm 1 (by decide)) (roomD hr) (ax_cons (ex_nm 1) ax_nil) (show Kept _ (Z _ _ _) _ from Kept.of hR))
  · have q : (red b).1 ≠ 0 := by simpa using q
    rw [if_neg q] at hR
    have p0 : 0 < (red a).2 * (red b).1 := Nat.mul_pos (Red.red fa).1 (Nat.pos_of_ne_zero q)
    exact ss_one (s1_ret (ex_red2 (k := 400) Dr hr (ex_bin (ex_nm 2) (ex_nm 5) (o_mulN za.1 zb.2 (by decide))) (ex_bin (ex_nm 3) (ex_nm 4) (o_mulN za.2 zb.1 (by decide))) p0 (gcd_le_of p0 (mulP za.2 zb.1) (by decide))) (.of hR))
theorem b_apart (B : Bl mg) (C : Cls P K mg cl) (Dc : Df P w K mg base "_check" 4 (cCheck cl)) (Dr : Df P w K mg base "_reduced" 1 cRed) : BodyOk P w K mg base N_apart ["one", "other"] "apart" s_apart 4 (cApart cl) := by
  intro f cdv A outer s H E ds M R Z hr hl ⟨a, b, e, hk, ha, hb, hR⟩
  subst e
  refine ss_cons (s1_check Dc hr (ex_tp (ax_cons (ex_nm 0) (ax_cons (ex_nm 1) ax_nil))) hk (fun h => ?_) fun b h => .of (hR.bad h))
  obtain ⟨fa, fb⟩ := badF2 h
  have hR := hR.ok h
  refine ss_cons (s1_red Dr rfl hr (ex_nm 0) fa (gs fa ha) (gxs_cons (gx_nm 2 sc_apart.nd) (gxs_cons (gx_nm 3 sc_apart.nd) gxs_nil)) ?_)
  refine ss_cons (s1_red Dr rfl hr (ex_nm 1) fb (gs fb hb) (gxs_cons (gx_nm 4 sc_apart.nd) (gxs_cons (gx_nm 5 sc_apart.nd) gxs_nil)) ?_)
  have za := red_le fa ha
  have zb := red_le fb hb
  have p0 : 0 < (red a).2 * (red b).2 := Nat.mul_pos (Red.red fa).1 (Red.red fb).1
  exact ss_one (s1_ret (ex_red2 (k := 400) Dr hr (ex_abs B.abs (ex_bin (ex_bin (ex_nm 2) (ex_nm 5) (o_mulN za.1 zb.2 (by decide))) (ex_bin (ex_nm 4) (ex_nm 3) (o_mulN zb.1 za.2 (by decide))) o_sub)) (ex_bin (ex_nm 3) (ex_nm 5) (o_mulN za.2 zb.2 (by decide))) p0 (gcd_le_of p0 (mulP za.2 zb.2) (by decide))) (.of (by
    simpa [gapN] using hR)))
end
end K1

set_option Elab.async false
set_option linter.all false
set_option maxRecDepth 100000
set_option maxHeartbeats 4000000
set_option exponentiation.threshold 100000
/-! K4: plus, times, _power, raised. -/
namespace K1
open PySem PySem.Spec PyProof.Rows L2 HM TX XN
theorem take_map_snoc {α β : Type} {l : List α} {f : α → β} {i : Nat} {d : α} (h : l[i]? = some d) : (l.take (i + 1)).map f = (l.take i).map f ++ [f d] := by
  rw [List.take_succ, h]
  simp
theorem red_pos_all {l : List Dt} (h : ∀ d ∈ l, isFr d = true) : ∀ y ∈ l.map red, 0 < y.2 := fun y hy => by
  obtain ⟨d, hd, rfl⟩ := List.mem_map.mp hy
  exact (Red.red (h d hd)).1
theorem total_Red {l : List Dt} (h : ∀ d ∈ l, isFr d = true) : Red (total (l.map red)) := total_red _ _ ⟨by decide, by decide⟩ (red_pos_all h)
theorem prodN_Red {l : List Dt} (h : ∀ d ∈ l, isFr d = true) : Red (prodN (l.map red)) := prodN_red _ _ ⟨by decide, by decide⟩ (red_pos_all h)
theorem div_le_of {a b i : Nat} (h : a ≤ 2 ^ i) : a / b ≤ 2 ^ i := Nat.le_trans (Nat.div_le_self _ _) h
section
variable {P : Program} {w : World} {K : PySem.W.Frag} {mg : Str → Option Value} {base : Heap} {cl : Nat → Addr}
theorem b_plus (B : Bl mg) (C : Cls P K mg cl) (Dc : Df P w K mg base "_check" 4 (cCheck cl)) (Dr : Df P w K mg base "_reduced" 1 cRed) : BodyOk P w K mg base N_plus ["fractions"] "plus" s_plus 4 (cPlus cl) := by
  intro f cdv A outer s H E ds M R Z hr hl ⟨l, e, hlen, hk, hs, hR⟩
  subst e
  refine ss_cons (s1_check Dc hr (ex_nm 0) hk (fun h => ?_) fun b h => .of (hR.bad h))
  have hf := badF_none.mp h
  have hR := hR.ok h
  refine ss_cons (s1_set 1 sc_plus.nd ex_int ?_)
  refine ss_cons (s1_set 2 sc_plus.nd ex_int ?_)
  refine ss_cons (s1_for (fun i G' M' => M' = M ∧ i ≤ l.length ∧ ∃ (t b : Nat) (o1 o2 o3 o4 : Option Dt), G' = [some (.tup l), some (.int (t : Int)), some (.int (b : Int)), o1, o2, o3, o4] ∧ 0 < b ∧ t * (total ((l.take i).map red)).2 = (total ((l.take i).map red)).1 * b ∧ b ≤ 2 ^ (200 * i) ∧ t ≤ 2 ^ (201 * i))
    (ix_tup (ex_nm 0)) rfl ⟨rfl, Nat.zero_le _, 0, 1, none, none, none, none, rfl, by decide, rfl, by decide, by decide⟩ ?_ ?_ (fun i G' M' h => by rw [h.1]) PassesOwn.leaving)
  · rintro i d G' M' hd ⟨rfl, hi, t, b, o1, o2, o3, o4, rfl, hb, hc, zb, zt⟩
    have hmem := List.mem_of_getElem? hd
    have fd := hf d hmem
    have sd := hs d hmem
    have zd := red_le fd sd
    have hi5 : i < 5 := Nat.lt_of_lt_of_le (List.getElem?_eq_some_iff.mp hd).1 hlen
    have pu : 0 < (red d).2 := (Red.red fd).1
    have hg : 0 < Nat.gcd b (red d).2 := Nat.gcd_pos_of_pos_left _ hb
    have hg9 : Nat.gcd b (red d).2 < 2 ^ 9000 := gcd_le_of pu zd.2 (by decide)
    have tR := total_Red (l := l.take i) fun x hx => hf x (List.mem_of_mem_take hx)
    refine ⟨_, gx_nm 3 sc_plus.nd, ?_⟩
    refine ss_cons (s1_red Dr rfl hr (ex_nm 3) fd (gs fd sd) (gxs_cons (gx_nm 4 sc_plus.nd) (gxs_cons (gx_nm 5 sc_plus.nd) gxs_nil)) ?_)
    refine ss_cons (s1_set 6 sc_plus.nd (ex_gcd B.gcd (ex_nm 2) (ex_nm 5)) ?_)
    refine ss_cons (s1_set 1 sc_plus.nd (ex_bin (ex_bin (ex_nm 1) (ex_bin (ex_nm 5) (ex_nm 6) (o_divN hg hg9)) (o_mulN (i := 201 * i) (j := 200) zt (div_le_of zd.2) (by omega))) (ex_bin (ex_nm 4) (ex_bin (ex_nm 2) (ex_nm 6) (o_divN hg hg9)) (o_mulN (i := 200) (j := 200 * i) zd.1 (div_le_of zb) (by omega))) o_addN) ?_)
    refine ss_one (s1_set 2 sc_plus.nd (ex_bin (ex_bin (ex_nm 2) (ex_nm 6) (o_divN hg hg9)) (ex_nm 5) (o_mulN (i := 200 * i) (j := 200) (div_le_of zb) zd.2 (by omega))) ?_)
    refine ⟨rfl, (List.getElem?_eq_some_iff.mp hd).1, _, _, _, _, _, _, rfl, ?_, ?_, ?_, ?_⟩
    · exact Nat.mul_pos (Nat.div_pos (Nat.le_of_dvd hb (Nat.gcd_dvd_left _ _)) hg) pu
    · rw [take_map_snoc hd, total_snoc]
      exact plus_step (S := total ((l.take i).map red)) hb pu tR.1 hc
    · have := mulP (j := 200) (div_le_of (b := Nat.gcd b (red d).2) zb) zd.2
      exact Nat.le_trans this (Nat.pow_le_pow_right (by decide) (by omega))
    · have a1 := mulP (i := 201 * i) (j := 200) zt (div_le_of (b := Nat.gcd b (red d).2) zd.2)
      have a2 := mulP (i := 200) (j := 200 * i) zd.1 (div_le_of (b := Nat.gcd b (red d).2) zb)
      have := addP a1 (Nat.le_trans a2 (Nat.pow_le_pow_right (by decide) (by omega)))
      exact Nat.le_trans this (Nat.pow_le_pow_right (by decide) (by omega))
  · rintro G' M' ⟨rfl, hi, t, b, o1, o2, o3, o4, rfl, hb, hc, zb, zt⟩
    rw [List.take_length] at hc
    have tR := total_Red hf
    have e : lowN t b = total (l.map red) := lowN_of hb tR.1 tR.2 hc
    refine ss_one (s1_ret (ex_red2 (k := 400) Dr hr (ex_nm 1) (ex_nm 2) hb (gcd_le_of hb zb (by omega))) (.of ?_))
    rw [e]
    exact hR
theorem prodN_le {k : Nat} : ∀ (l : List Dt), (∀ d ∈ l, isFr d = true) → (∀ d ∈ l, FrS 200 d) → ∀ (x : Nat × Nat), Sz k x → Sz (k + 200 * l.length) ((l.map red).foldl byN x)
  | [], _, _, x, h => h
  | d :: l, hf, hs, x, h => by
    have z := red_le (hf d List.mem_cons_self) (hs d List.mem_cons_self)
    have h2 : Sz (k + 200) (byN x (red d)) := Sz.low ⟨mulP h.1 z.1, mulP h.2 z.2⟩
    have := prodN_le (k := k + 200) l (fun e he => hf e (List.mem_cons_of_mem _ he)) (fun e he => hs e (List.mem_cons_of_mem _ he)) _ h2
    refine Sz.mono this ?_
    simp
    omega
theorem b_times (C : Cls P K mg cl) (Dc : Df P w K mg base "_check" 4 (cCheck cl)) (Dr : Df P w K mg base "_reduced" 1 cRed) : BodyOk P w K mg base N_times ["fractions"] "times" s_times 4 (cTimes cl) := by
  intro f cdv A outer s H E ds M R Z hr hl ⟨l, e, hlen, hk, hs, hR⟩
  subst e
  refine ss_cons (s1_check Dc hr (ex_nm 0) hk (fun h => ?_) fun b h => .of (hR.bad h))
  have hf := badF_none.mp h
  have hR := hR.ok h
  refine ss_cons (s1_set 1 sc_times.nd (ex_tp (ax_cons ex_int (ax_cons ex_int ax_nil))) ?_)
  refine ss_cons (s1_for (fun i G' M' => M' = M ∧ ∃ (o1 o2 o3 : Option Dt), G' = [some (.tup l), some (pr (prodN ((l.take i).map red))), o1, o2, o3])
    (ix_tup (ex_nm 0)) rfl ⟨rfl, none, none, none, rfl⟩ ?_ ?_ (fun i G' M' h => by rw [h.1]) PassesOwn.leaving)
  · rintro i d G' M' hd ⟨rfl, o1, o2, o3, rfl⟩
    have hmem := List.mem_of_getElem? hd
    have fd := hf d hmem
    have sd := hs d hmem
    have zd := red_le fd sd
    have hi5 : i < 5 := Nat.lt_of_lt_of_le (List.getElem?_eq_some_iff.mp hd).1 hlen
    have pu : 0 < (red d).2 := (Red.red fd).1
    have tR := prodN_Red (l := l.take i) fun x hx => hf x (List.mem_of_mem_take hx)
    have zp : Sz 1000 (prodN ((l.take i).map red)) := by
      have := prodN_le (k := 0) (l.take i) (fun x hx => hf x (List.mem_of_mem_take hx)) (fun x hx => hs x (List.mem_of_mem_take hx)) (1, 1) ⟨by decide, by decide⟩
      refine Sz.mono this ?_
      have : (l.take i).length ≤ i := by simp; omega
      omega
    have p0 : 0 < (prodN ((l.take i).map red)).2 * (red d).2 := Nat.mul_pos tR.1 pu
    refine ⟨_, gx_nm 2 sc_times.nd, ?_⟩
    refine ss_cons (s1_red Dr rfl hr (ex_nm 2) fd (gs fd sd) (gxs_cons (gx_nm 3 sc_times.nd) (gxs_cons (gx_nm 4 sc_times.nd) gxs_nil)) ?_)
    refine ss_one (s1_set 1 sc_times.nd (ex_red2 (k := 400) Dr hr (ex_bin (ex_at (ex_nm 1) ex_int (i_tup (n := 0) rfl)) (ex_nm 3) (o_mulN zp.1 zd.1 (by decide))) (ex_bin (ex_at (ex_nm 1) ex_int (i_tup (n := 1) rfl)) (ex_nm 4) (o_mulN zp.2 zd.2 (by decide))) p0 (gcd_le_of p0 (mulP zp.2 zd.2) (by decide))) ?_)
    rw [take_map_snoc hd, prodN_snoc]
    exact ⟨rfl, _, _, _, rfl⟩
  · rintro G' M' ⟨rfl, o1, o2, o3, rfl⟩
    rw [List.take_length]
    exact ss_one (s1_ret (ex_nm 1) (.of hR))
/-! ### _power, raised -/
def cPow : Ct := fun ds M R _ => ∃ b n : Nat, ds = [.int (b : Int), .int (n : Int)] ∧ b ^ n ≤ 2 ^ 60000 ∧ R (.int ((b ^ n : Nat) : Int)) M
theorem c_gtN {X : Cx} {a b : Nat} : CmpOk X .Gt (.int (a : Int)) (.int (b : Int)) (.bl (decide (b < a))) := by
  have := c_gt (X := X) (i := (a : Int)) (j := (b : Int))
  simpa using this
theorem c_eqN {X : Cx} {a b : Nat} : CmpOk X .Eq (.int (a : Int)) (.int (b : Int)) (.bl (decide (a = b))) := by
  have e : decide ((a : Int) = (b : Int)) = decide (a = b) := decide_eq_decide.mpr Int.ofNat_inj
  rw [← e]
  exact c_eqI
theorem o_and1N {X : Cx} {n : Nat} : OpOk X .BitAnd (.int (n : Int)) (.int ((1 : Nat) : Int)) (.int ((n % 2 : Nat) : Int)) := o_and1
theorem b_power : BodyOk P w K mg base N_power ["base", "n"] "_power" s_power 0 cPow := by
  intro f cdv A outer s H E ds M R Z hr hl ⟨b, n, e, hz, hR⟩
  subst e
  refine ss_cons (s1_if (tx_cp (d2 := .int ((2 : Nat) : Int)) (ex_nm 0) ex_int c_decLt) (fun h => ?_) fun h => ss_nil ?_)
  · have hb : b < 2 := by simpa using h
    refine ss_one (s1_ret (d := .int ((b ^ n : Nat) : Int)) (ex_if (tx_cp (d2 := .int ((0 : Nat) : Int)) (ex_nm 1) ex_int c_gtN) (fun h => ?_) fun h => ?_) (.of hR))
    · have hn : 0 < n := by simpa using h
      have : b ^ n = b := by
        rcases (by omega : b = 0 ∨ b = 1) with rfl | rfl
        · exact Nat.zero_pow hn
        · exact Nat.one_pow n
      rw [this]
      exact ex_nm 0
    · have hn : n = 0 := by simpa using h
      subst hn
      exact ex_int
  · have hb : 2 ≤ b := by
      have := of_decide_eq_false h
      omega
    refine ss_cons (s1_set 2 sc_power.nd ex_int ?_)
    refine ss_cons (s1_set 3 sc_power.nd (ex_nm 0) ?_)
    refine ss_cons (s1_set 4 sc_power.nd (ex_nm 1) ?_)
    refine ss_cons (s1_while (fun m G' M' => (M' = M ∧ ∃ r q : Nat, G' = [some (.int (b : Int)), some (.int (n : Int)), some (.int (r : Int)), some (.int (q : Int)), some (.int (m : Int))] ∧ 2 ≤ q ∧ 0 < r ∧ r * q ^ m = b ^ n) ∨ (M' = M ∧ m = 0 ∧ ∃ q : Nat, G' = [some (.int (b : Int)), some (.int (n : Int)), some (.int ((b ^ n : Nat) : Int)), some (.int (q : Int)), some (.int ((0 : Nat) : Int))]))
      n (.inl ⟨rfl, 1, b, rfl, hb, by decide, by simp⟩) ?_ PassesOwn.leaving)
    rintro m G' M' (⟨rfl, r, q, rfl, hq, hr0, hI⟩ | ⟨rfl, rfl, q, rfl⟩)
    · refine ⟨_, tx_cp (d2 := .int ((0 : Nat) : Int)) (ex_nm 4) ex_int c_gtN, fun h => ?_, fun h => ?_⟩
      · have hm : 0 < m := by simpa using h
        have zr : r ≤ 2 ^ 60000 := by
          refine Nat.le_trans ?_ hz
          rw [← hI]
          exact Nat.le_mul_of_pos_right r (Nat.pow_pos (by omega))
        have zq : q ^ m ≤ 2 ^ 60000 := by
          refine Nat.le_trans ?_ hz
          rw [← hI]
          exact Nat.le_mul_of_pos_left _ hr0
        have zq1 : q ≤ 2 ^ 60000 := by
          refine Nat.le_trans ?_ zq
          calc q = q ^ 1 := (Nat.pow_one q).symm
            _ ≤ q ^ m := Nat.pow_le_pow_right (by omega) hm
        have hsplit : q ^ m = q ^ (m % 2) * (q * q) ^ (m / 2) := by
          rw [← Nat.pow_two, ← Nat.pow_mul, ← Nat.pow_add]
          congr 1
          omega
        have hlt : m / 2 < m := Nat.div_lt_self hm (by decide)
        refine ss_cons (s1_if (tx_cp (d2 := .int ((1 : Nat) : Int)) (ex_bin (ex_nm 4) ex_int o_and1) ex_int c_eqN) (fun h => ss_one (s1_set 2 sc_power.nd (ex_bin (ex_nm 2) (ex_nm 3) (o_mulN zr zq1 (by decide))) ?_)) fun h => ss_nil ?_)
        · have h1 : m % 2 = 1 := by simpa using h
          have hI2 : (r * q) * (q * q) ^ (m / 2) = b ^ n := by
            rw [← hI, hsplit, h1, Nat.pow_one, Nat.mul_assoc]
          refine ss_cons (s1_set 4 sc_power.nd (ex_bin (ex_nm 4) ex_int o_half) ?_)
          refine ss_one (s1_if (tx_cp (d2 := .int ((0 : Nat) : Int)) (ex_nm 4) ex_int c_gtN) (fun h2 => ss_one (s1_set 3 sc_power.nd (ex_bin (ex_nm 3) (ex_nm 3) (o_mulN zq1 zq1 (by decide))) ?_)) fun h2 => ss_nil ?_)
          · exact ⟨m / 2, hlt, .inl ⟨rfl, _, q * q, rfl, Nat.le_trans hq (Nat.le_mul_of_pos_left q (by omega)), by first | exact Nat.mul_pos hr0 (by omega) | exact hr0, hI2⟩⟩
          · have h0 : m / 2 = 0 := by
              have := of_decide_eq_false h2
              omega
            rw [h0, Nat.pow_zero, Nat.mul_one] at hI2
            rw [h0, hI2]
            exact ⟨0, by omega, .inr ⟨rfl, rfl, q, rfl⟩⟩
        · have h1 : m % 2 = 0 := by
            have := of_decide_eq_false h
            omega
          have hI2 : r * (q * q) ^ (m / 2) = b ^ n := by
            rw [← hI, hsplit, h1, Nat.pow_zero, Nat.one_mul]
          refine ss_cons (s1_set 4 sc_power.nd (ex_bin (ex_nm 4) ex_int o_half) ?_)
          refine ss_one (s1_if (tx_cp (d2 := .int ((0 : Nat) : Int)) (ex_nm 4) ex_int c_gtN) (fun h2 => ss_one (s1_set 3 sc_power.nd (ex_bin (ex_nm 3) (ex_nm 3) (o_mulN zq1 zq1 (by decide))) ?_)) fun h2 => ss_nil ?_)
          · exact ⟨m / 2, hlt, .inl ⟨rfl, _, q * q, rfl, Nat.le_trans hq (Nat.le_mul_of_pos_left q (by omega)), by first | exact Nat.mul_pos hr0 (by omega) | exact hr0, hI2⟩⟩
          · have h0 : m / 2 = 0 := by
              have := of_decide_eq_false h2
              omega
            rw [h0, Nat.pow_zero, Nat.mul_one] at hI2
            rw [h0, hI2]
            exact ⟨0, by omega, .inr ⟨rfl, rfl, q, rfl⟩⟩
      · have hm : m = 0 := by simpa using h
        subst hm
        have : r = b ^ n := by simpa using hI
        subst this
        exact ss_one (s1_ret (ex_nm 2) (.of hR))
    · refine ⟨_, tx_cp (d2 := .int ((0 : Nat) : Int)) (ex_nm 4) ex_int c_gtN, fun h => absurd h (by simp), fun h => ?_⟩
      exact ss_one (s1_ret (ex_nm 2) (.of hR))
end
end K1

set_option Elab.async false
set_option linter.all false
set_option maxRecDepth 100000
set_option maxHeartbeats 4000000
set_option exponentiation.threshold 100000
/-! K5: raised, least_common. -/
namespace K1
open PySem PySem.Spec PyProof.Rows L2 HM TX XN
def isCnt (d : Dt) : Bool := match d with | .int i => decide (0 ≤ i) | _ => false
def cntN (d : Dt) : Nat := match d with | .int i => i.toNat | _ => 0
def cRaised (cl : Nat → Addr) : Ct := fun ds M R Z => ∃ a n, ds = [a, n] ∧ okd a = true ∧ okd n = true ∧ FrS 200 a ∧ (isCnt n = true → cntN n ≤ 40) ∧ orBad cl [a] Z M (if isCnt n = true then R (pr ((red a).1 ^ cntN n, (red a).2 ^ cntN n)) M else Z (cl 2) (cks 2) (cfs 2 [n]) M)
theorem pow_le40 {a n : Nat} (h : a ≤ 2 ^ 200) (hn : n ≤ 40) : a ^ n ≤ 2 ^ 60000 := by
  refine Nat.le_trans (Nat.pow_le_pow_left h n) ?_
  rw [← Nat.pow_mul]
  exact Nat.pow_le_pow_right (by decide) (by omega)
section
variable {P : Program} {w : World} {K : PySem.W.Frag} {mg : Str → Option Value} {base : Heap} {cl : Nat → Addr}
theorem b_raised (C : Cls P K mg cl) (Dc : Df P w K mg base "_check" 4 (cCheck cl)) (Dr : Df P w K mg base "_reduced" 1 cRed) (Dn : Df P w K mg base "is_number" 1 cNum) (Dp : Df P w K mg base "_power" 1 cPow) : BodyOk P w K mg base N_raised ["one", "n"] "raised" s_raised 4 (cRaised cl) := by
  intro f cdv A outer s H E ds M R Z hr hl ⟨a, n, e, hk, hkn, ha, hn, hR⟩
  subst e
  refine ss_cons (s1_check Dc hr (ex_tp (ax_cons (ex_nm 0) ax_nil)) (by simpa using hk) (fun h => ?_) fun b h => .of (hR.bad h))
  have fa := badF1 h
  have hR := hR.ok h
  have za := red_le fa ha
  refine ss_cons (s1_if (k := !isCnt n) (M1 := M) ?_ (fun q => ?_) fun q => ss_nil ?_)
  · cases n with
    | int i => exact ET.is (tx_w (wx_or (tx_not (tx_val (ex_call Dn hr (ax_cons (ex_nm 1) ax_nil) ⟨_, rfl, rfl, rfl, rfl⟩))) fun _ => wx_or1 (tx_cp (ex_nm 1) ex_int c_lt))) (by
        simp only [isNum, isCnt, Bool.not_true, Bool.false_or]
        by_cases h0 : i < 0
        · have : ¬ (0 ≤ i) := by omega
          simp [h0, this]
        · have : 0 ≤ i := by omega
          simp [h0, this])
    | _ => exact ET.is (tx_w (wx_or (k2 := true) (tx_not (tx_val (ex_call Dn hr (ax_cons (ex_nm 1) ax_nil) ⟨_, rfl, okd.kn hkn, rfl, rfl⟩))) fun z => absurd z (by simp [isNum]))) rfl
  · have q : isCnt n = false := by simpa using q
    rw [q] at hR
    exact ss_one (s1_raise rfl (C.xm 2 (by decide)) (roomD hr) (ax_cons (ex_nm 1) ax_nil) (show Kept _ (Z _ _ _) _ from Kept.of (by simpa using hR)))
  · have q : isCnt n = true := by simpa using q
    rw [if_pos q] at hR
    cases n with
    | int i =>
      have i0 : 0 ≤ i := by simpa [isCnt] using q
      obtain ⟨m, rfl⟩ : ∃ m : Nat, i = m := ⟨i.toNat, by omega⟩
      have hm : m ≤ 40 := by simpa [cntN] using hn q
      refine ss_cons (s1_red Dr rfl hr (ex_nm 0) fa (gs fa ha) (gxs_cons (gx_nm 2 sc_raised.nd) (gxs_cons (gx_nm 3 sc_raised.nd) gxs_nil)) ?_)
      refine ss_one (s1_ret (ex_tp (ax_cons (ex_call Dp hr (ax_cons (ex_nm 2) (ax_cons (ex_nm 1) ax_nil)) ⟨_, _, rfl, pow_le40 za.1 hm, rfl, rfl⟩) (ax_cons (ex_call Dp hr (ax_cons (ex_nm 3) (ax_cons (ex_nm 1) ax_nil)) ⟨_, _, rfl, pow_le40 za.2 hm, rfl, rfl⟩) ax_nil))) (.of ?_))
      simpa [cntN, pr] using hR
    | _ => cases q
/-! ### lcm -/
def rLcm : List V → Hp → VK → Prop := fun vs H Q => ∃ a b : Int, vs = [.int a, .int b] ∧ a.natAbs < 2 ^ 64 ∧ b.natAbs < 2 ^ 64 ∧ Q (.int ((Nat.lcm a.natAbs b.natAbs : Nat) : Int)) H
theorem cr_lcm {X : Cx} : CallR X (.builtin "math.lcm") rLcm := by
  intro pins s σ H vs us Q I r h
  obtain ⟨a, b, rfl, ha, hb, q⟩ := h
  obtain ⟨t, u, rfl⟩ := Vals.int2 r
  exact PySem.W.mc_lcm ha hb fun _ => ⟨.int _, H, I.tok _, ⟨_, rfl⟩, q⟩
theorem lcm_D {K : PySem.W.Frag} {a b : Nat} (ha : a < 2 ^ 64) (hb : b < 2 ^ 64) : CallD K rLcm [.int (a : Int), .int (b : Int)] (.int ((Nat.lcm a b : Nat) : Int)) := CallD.now fun F H vs Q sb r q => by
  obtain ⟨v, r1, rfl, r2, v2, r3, rfl, r4, r5⟩ := r
  have e2 : v = .int a := r2
  have e4 : v2 = .int b := r4
  have e5 : r3 = [] := r5
  subst e2 e4 e5
  exact ⟨a, b, rfl, by simpa using ha, by simpa using hb, q _ rfl⟩
def lcmL (ns : List Nat) : Nat := ns.foldl Nat.lcm 1
def nats (ns : List Nat) : List Dt := ns.map fun (n : Nat) => Dt.int (n : Int)
theorem nats_get {ns : List Nat} {i : Nat} {d : Dt} (h : (nats ns)[i]? = some d) : ∃ n, ns[i]? = some n ∧ d = .int (n : Int) := by
  unfold nats at h
  rw [List.getElem?_map] at h
  cases e : ns[i]? with
  | none => rw [e] at h; simp at h
  | some n =>
    rw [e] at h
    exact ⟨n, rfl, by simpa using h.symm⟩
def cLeast : Ct := fun ds M R _ => ∃ ns : List Nat, (ds = [.lst (nats ns)] ∨ ds = [.tup (nats ns)]) ∧ (∀ n ∈ ns, n < 2 ^ 64) ∧ (∀ i, lcmL (ns.take i) < 2 ^ 64) ∧ R (.int (lcmL ns : Int)) M
theorem b_least (B : Bl mg) : BodyOk P w K mg base N_least_common ["numbers"] "least_common" s_least_common 0 cLeast := by
  intro f cdv A outer s H E ds M R Z hr hl ⟨ns, hds, hn, hL, hR⟩
  obtain ⟨D, rfl, hix⟩ : ∃ D : Dt, ds = [D] ∧ ∀ {X : Cx} {tg : Expr} {e : Expr} {G : List (Option Dt)} {M : Mst}, EX X e G M D M → IX X tg e G M (nats ns) M := by
    rcases hds with h | h
    · exact ⟨_, h, fun h => ix_lst h⟩
    · exact ⟨_, h, fun h => ix_tup h⟩
  refine ss_cons (s1_set 1 sc_least_common.nd ex_int ?_)
  refine ss_cons (s1_for (fun i G' M' => M' = M ∧ ∃ (o : Option Dt), G' = [some D, some (.int (lcmL (ns.take i) : Int)), o]) (hix (ex_nm 0)) rfl ⟨rfl, none, rfl⟩ ?_ ?_ (fun i G' M' h => by rw [h.1]) PassesOwn.leaving)
  · rintro i d G' M' hd ⟨rfl, o, rfl⟩
    obtain ⟨n, hni, rfl⟩ := nats_get hd
    refine ⟨_, gx_nm 2 sc_least_common.nd, ?_⟩
    refine ss_one (s1_set 1 sc_least_common.nd (ex_callBf cr_lcm (lcm_D (hL i) (hn n (List.mem_of_getElem? hni))) B.lcm (ax_cons (ex_nm 1) (ax_cons (ex_nm 2) ax_nil))) ?_)
    refine ⟨rfl, some (.int (n : Int)), ?_⟩
    have : lcmL (ns.take (i + 1)) = Nat.lcm (lcmL (ns.take i)) n := by
      rw [List.take_succ, hni]
      simp [lcmL]
    rw [this]
    rfl
  · rintro G' M' ⟨rfl, o, rfl⟩
    have : ns.take (nats ns).length = ns := by simp [nats]
    rw [this]
    exact ss_one (s1_ret (ex_nm 1) (.of hR))
end
end K1

set_option Elab.async false
set_option linter.all false
set_option maxRecDepth 100000
set_option maxHeartbeats 4000000
/-! BI: more built-in things over data. -/
namespace HM
open PySem PySem.Spec PyProof.Rows L2
/-- the signs of a text, as texts -/
def chs (z : Str) : List Dt := z.cps.toList.map fun c => .str ⟨#[c]⟩
theorem chs_get {z : Str} {i : Nat} {d : Dt} (h : (chs z)[i]? = some d) : ∃ c, z.cps.toList[i]? = some c ∧ d = .str ⟨#[c]⟩ := by
  unfold chs at h
  rw [List.getElem?_map] at h
  cases e : z.cps.toList[i]? with
  | none => rw [e] at h; simp at h
  | some n =>
    rw [e] at h
    exact ⟨n, rfl, by simpa using h.symm⟩
theorem chs_len (z : Str) : (chs z).length = z.cps.size := by simp [chs]
theorem itd_str {K : PySem.W.Frag} {F : Hp} {z : Str} : ItD K (Its z) F (chs z) := fun F1 H M sb s => by
  refine ⟨fun i d hd => ?_, fun i hi => by rw [chs_len] at hi; exact hi⟩
  obtain ⟨c, hc, rfl⟩ := chs_get hd
  have hlt : i < z.cps.size := by
    have := (List.getElem?_eq_some_iff.mp hc).1
    simpa using this
  refine ⟨hlt, fun x H' hy => ?_⟩
  obtain ⟨rfl, c', hc', rfl⟩ := hy
  have e : c' = c := by
    rw [← Array.getElem?_toList, hc] at hc'
    exact (Option.some.inj hc').symm
  subst e
  exact ⟨F1, Gr.refl _ _ _, s, rfl⟩
section
variable {X : Cx} {tg e o a b : Expr} {es : List Expr} {G : List (Option Dt)} {M M1 M2 M3 : Mst} {d d1 d2 : Dt} {ds : List Dt} {pos apos cpos p1 p2 p3 : Pos} {z y : Str} {x : Str} {i j : Int} {n m : Nat}
theorem ix_chs (h : EX X e G M (.str z) M1) : IX X tg e G M (chs z) M1 := ⟨h.1, _, pi_str pe_w, fun σ F H R rs s q => h.2 σ F H _ rs s fun v F1 H1 g1 s1 r1 => by
  have r1 : v = .str z := r1
  exact ⟨z, r1, q _ F1 H1 g1 s1 itd_str⟩⟩
theorem c_inS {c : Nat} : CmpOk X .In (.str ⟨#[c]⟩) (.str z) (.bl (decide (c ∈ z.cps.toList))) := ⟨_, op_inS, OpD.now fun F H x y Q _ r1 r2 q => ⟨c, z, r1, r2, q _ rfl⟩⟩
theorem c_notinS {c : Nat} : CmpOk X .NotIn (.str ⟨#[c]⟩) (.str z) (.bl (!(!(Builtin.Str.occurrences z ⟨#[c]⟩ 0 z.length 1).isEmpty))) := ⟨_, op_notin_str, OpD.now fun F H x y Q _ r1 r2 q => ⟨_, z, r1, r2, q _ rfl⟩⟩
theorem i_str {c : Nat} (hc : z.cps.toList[n]? = some c) (hz : z.length ≤ 100000) : IxOk X (.str z) (.int (n : Int)) (.str ⟨#[c]⟩) := ⟨_, L2.ix_str, OpD.now fun F H x y Q sb r1 r2 q => ⟨z, n, c, r1, r2, by rw [sizeLine_eq]; omega, atI_nat hc, q _ rfl⟩⟩
/-! methods -/
theorem ex_m1 {T id name : String} {r : V → List V → Hp → VK → Prop} (pa : PlainAttrs T) (slot : Slot T name id) (hty : typeOf (.builtin id) = pure (.type "method_descriptor")) (hm : MtR X id r) (ty : ∀ F H v, Sub F H → Rep X.K F d1 v → tyV X.K T v H) (hr : MtD X.K r d1 [d2] d)
    (ho : EX X o G M d1 M1) (he : EX X e G M1 d2 M2) (hbase : attributeBase o name X.env (eval o X.env) = eval o X.env := by rfl)
    (hfew : ((backTo cpos (starEach [e] X.env)).all (fun x => !x.1) && (backToKw cpos (keywordEach [] X.env)).all (fun x => x.1.isSome) && decide (([e] : List Expr).length + ([] : List Keyword).length + (if ([] : List Keyword).isEmpty then 0 else 1) < 30)) = true := by rfl)
    (hline : (apos.endLine == cpos.line) = true := by rfl) (hs : starEach [e] X.env = (false, eval e X.env) :: starEach [] X.env := by rfl) : EX X (.Call (.Attribute o name apos) [e] [] cpos) G M d M2 :=
  ⟨he.1.trans ho.1, fun σ F H Q rs s q => w_e (pe_bm pa slot hty hm pe_w (pa_cons pe_w pa_nil hs) hbase hfew hline hs) (ho.2 σ F H _ rs s fun v F1 H1 g1 s1 r1 => ⟨ty F1 H1 v s1.sub r1, he.2 σ F1 H1 _ (rs.mono g1.sub) s1 fun y F2 H2 g2 s2 r2 =>
    hr M2 F2 H2 v [y] Q s2 (Rep.mono g2.sub _ r1) (Reps.one r2) fun u F3 H3 g3 s3 r3 => q u F3 H3 (gr2 (he.1.trans ho.1) (gr2 ho.1 g1 g2) g3) s3 r3⟩)⟩
theorem ex_m0 {T id name : String} {r : V → List V → Hp → VK → Prop} (pa : PlainAttrs T) (slot : Slot T name id) (hty : typeOf (.builtin id) = pure (.type "method_descriptor")) (hm : MtR X id r) (ty : ∀ F H v, Sub F H → Rep X.K F d1 v → tyV X.K T v H) (hr : MtD X.K r d1 [] d)
    (ho : EX X o G M d1 M1) (hbase : attributeBase o name X.env (eval o X.env) = eval o X.env := by rfl) (hline : (apos.endLine == cpos.line) = true := by rfl) : EX X (.Call (.Attribute o name apos) [] [] cpos) G M d M1 :=
  ⟨ho.1, fun σ F H Q rs s q => w_e (pe_bm0 pa slot hty hm pe_w hbase hline) (ho.2 σ F H _ rs s fun v F1 H1 g1 s1 r1 => ⟨ty F1 H1 v s1.sub r1, hr M1 F1 H1 v [] Q s1 r1 rfl fun u F3 H3 g3 s3 r3 => q u F3 H3 (gr2 ho.1 g1 g3) s3 r3⟩)⟩
theorem ty_str : ∀ F H v, Sub F H → Rep X.K F (.str z) v → tyV X.K "str" v H := fun F H v _ r => by
  have r : v = .str z := r
  subst r
  rfl
theorem ex_find (ho : EX X o G M (.str z) M1) (he : EX X e G M1 (.str y) M2) (hbase : attributeBase o "find" X.env (eval o X.env) = eval o X.env := by rfl)
    (hfew : ((backTo cpos (starEach [e] X.env)).all (fun x => !x.1) && (backToKw cpos (keywordEach [] X.env)).all (fun x => x.1.isSome) && decide (([e] : List Expr).length + ([] : List Keyword).length + (if ([] : List Keyword).isEmpty then 0 else 1) < 30)) = true := by rfl)
    (hline : (apos.endLine == cpos.line) = true := by rfl) (hs : starEach [e] X.env = (false, eval e X.env) :: starEach [] X.env := by rfl) : EX X (.Call (.Attribute o "find" apos) [e] [] cpos) G M (.int (Txt.find z y)) M2 :=
  ex_m1 PySem.F.plainAttrs_str PySem.F.slot_str_find PySem.F.type_str_find mt_find ty_str (MtD.now fun F H x vs Q sb r1 r2 q => by
    obtain ⟨v, rest, rfl, r3, r4⟩ := r2
    have r1 : x = .str z := r1
    have r3 : v = .str y := r3
    have r4 : rest = [] := r4
    subst r1 r3 r4
    exact ⟨z, y, rfl, rfl, q _ rfl⟩) ho he hbase hfew hline hs
theorem ex_split (ho : EX X o G M (.str z) M1) (he : EX X e G M1 (.str y) M2) (hy : (y.length == 0) = false) (hz : z.length ≤ 100000) (hbase : attributeBase o "split" X.env (eval o X.env) = eval o X.env := by rfl)
    (hfew : ((backTo cpos (starEach [e] X.env)).all (fun x => !x.1) && (backToKw cpos (keywordEach [] X.env)).all (fun x => x.1.isSome) && decide (([e] : List Expr).length + ([] : List Keyword).length + (if ([] : List Keyword).isEmpty then 0 else 1) < 30)) = true := by rfl)
    (hline : (apos.endLine == cpos.line) = true := by rfl) (hs : starEach [e] X.env = (false, eval e X.env) :: starEach [] X.env := by rfl) : EX X (.Call (.Attribute o "split" apos) [e] [] cpos) G M (.lst ((Txt.split z y).map Dt.str)) M2 :=
  ex_m1 PySem.F.plainAttrs_str PySem.F.slot_str_split PySem.F.type_str_split mt_split ty_str (fun M F H x vs Q s r1 r2 q => by
    obtain ⟨v, rest, rfl, r3, r4⟩ := r2
    have r1 : x = .str z := r1
    have r3 : v = .str y := r3
    have r4 : rest = [] := r4
    subst r1 r3 r4
    refine ⟨z, y, rfl, rfl, hy, by rw [sizeLine_eq]; omega, fun p hp => ?_⟩
    exact q _ _ _ (gr_new s hp) (s.new hp) ⟨p, _, rfl, SqL.of upd_same, Reps.strs _⟩) ho he hbase hfew hline hs
theorem ex_isalpha (ho : EX X o G M (.str z) M1) (hbase : attributeBase o "isalpha" X.env (eval o X.env) = eval o X.env := by rfl) (hline : (apos.endLine == cpos.line) = true := by rfl) : EX X (.Call (.Attribute o "isalpha" apos) [] [] cpos) G M (.bl (Txt.isalpha z)) M1 :=
  ex_m0 PySem.F.plainAttrs_str PySem.F.slot_str_isalpha PySem.F.type_str_isalpha mt_isalpha ty_str (MtD.now fun F H x vs Q sb r1 r2 q => by
    have r1 : x = .str z := r1
    have r2 : vs = [] := r2
    subst r1 r2
    exact ⟨z, rfl, rfl, trivial, q _ rfl⟩) ho hbase hline
theorem ex_bits (ho : EX X o G M (.int i) M1) (hbase : attributeBase o "bit_length" X.env (eval o X.env) = eval o X.env := by rfl) (hline : (apos.endLine == cpos.line) = true := by rfl) : EX X (.Call (.Attribute o "bit_length" apos) [] [] cpos) G M (.int (Builtin.Int.intBits i : Nat)) M1 :=
  ⟨ho.1, fun σ F H Q rs s q => w_e (pe_bits pe_w hbase hline) (ho.2 σ F H _ rs s fun v F1 H1 g1 s1 r1 => ⟨i, r1, q _ F1 H1 g1 s1 rfl⟩)⟩
/-! slices -/
def PX (X : Cx) (e : Option Expr) (G : List (Option Dt)) (M : Mst) (o : Option Int) (M1 : Mst) : Prop := dom M1 = dom M ∧ ∃ t, PO X e t ∧ ∀ (σ : L2.St) (F H : Hp) (Q : Option Int → Hp → Prop), RepS X.K F σ G → Sta X.K F M H → (∀ F' H', Gr (dom M) F H F' H' → Sta X.K F' M1 H' → Q o H') → t σ H Q
theorem px_none : PX X none G M none M := ⟨rfl, _, po_none, fun σ F H Q _ s q => q F H (Gr.refl _ _ _) s⟩
theorem px_some (h : EX X e G M (.int i) M1) : PX X (some e) G M (some i) M1 := ⟨h.1, _, po_some pe_w, fun σ F H Q rs s q => h.2 σ F H _ rs s fun v F1 H1 g1 s1 r1 => ⟨i, r1, q F1 H1 g1 s1⟩⟩
theorem ex_sl {r : V → Option Int → Option Int → Hp → VK → Prop} {lo hi : Option Expr} {l h : Option Int} (sr : SlR X r) (he : EX X e G M d1 M1) (hl : PX X lo G M1 l M2) (hh : PX X hi G M2 h M3)
    (hr : ∀ (M : Mst) (F H : Hp) (x : V) (Q : VK), Sta X.K F M H → Rep X.K F d1 x → (∀ v F' H', Gr (dom M) F H F' H' → Sta X.K F' M H' → Rep X.K F' d v → Q v H') → r x l h H Q) : EX X (.Subscript e (.Slice lo hi none p2) pos) G M d M3 := by
  obtain ⟨e1, tl, pl, hl⟩ := hl
  obtain ⟨e2, th, ph, hh⟩ := hh
  exact ⟨e2.trans (e1.trans he.1), fun σ F H Q rs s q => w_e (pe_slice sr pe_w pl ph) (he.2 σ F H _ rs s fun v F1 H1 g1 s1 r1 => hl σ F1 H1 _ (rs.mono g1.sub) s1 fun F2 H2 g2 s2 => hh σ F2 H2 _ (rs.mono (g1.sub.trans g2.sub)) s2 fun F3 H3 g3 s3 =>
    hr M3 F3 H3 v Q s3 (Rep.mono (g2.sub.trans g3.sub) _ r1) fun u F4 H4 g4 s4 r4 => q u F4 H4 (gr2 (e2.trans (e1.trans he.1)) (gr2 (e1.trans he.1) (gr2 he.1 g1 g2) g3) g4) s4 r4)⟩
theorem ex_slS {lo hi : Option Expr} {l h : Option Int} (he : EX X e G M (.str z) M1) (hl : PX X lo G M1 l M2) (hh : PX X hi G M2 h M3) (hz : z.length ≤ 100000) : EX X (.Subscript e (.Slice lo hi none p2) pos) G M (.str (cutS z l h)) M3 :=
  ex_sl sl_str he hl hh fun M F H x Q s r q => ⟨z, r, by rw [sizeLine_eq]; omega, q _ F H (Gr.refl _ _ _) s rfl⟩
/-- l[:n] -/
theorem ex_slL {hi : Option Expr} {l : List Dt} (he : EX X e G M (.lst l) M1) (hh : PX X hi G M1 (some (n : Int)) M2) : EX X (.Subscript e (.Slice none hi none p2) pos) G M (.lst (l.take n)) M2 :=
  ex_sl sl_list he px_none hh fun M F H x Q s r q => by
    obtain ⟨a, vs, rfl, h1, h2⟩ := r
    refine ⟨a, vs, rfl, s.sub.sqL h1, fun p hp => q _ _ _ (gr_new s hp) (s.new hp) ⟨p, _, rfl, SqL.of upd_same, ?_⟩⟩
    have e : cutV vs none (some (n : Int)) = vs.take n := by
      unfold cutV
      rw [HT.sIx_none, HT.sIx_nat]
      simp only [List.drop_zero, Nat.sub_zero]
      rw [Nat.min_comm, List.take_eq_take_iff]
      omega
    rw [e]
    exact Reps.mono (sub_upd (s.free hp)) _ (h2.take n)
/-! calls -/
theorem max_D : CallD X.K (fun xs H Q => ∃ i j, xs = [.int i, .int j] ∧ Q (.int (if j > i then j else i)) H) [.int (n : Int), .int (m : Int)] (.int ((max n m : Nat) : Int)) := CallD.now fun F H vs Q sb r q => by
  obtain ⟨v, r1, rfl, r2, v2, r3, rfl, r4, r5⟩ := r
  have e2 : v = .int n := r2
  have e4 : v2 = .int m := r4
  have e5 : r3 = [] := r5
  subst e2 e4 e5
  refine ⟨n, m, rfl, q _ ?_⟩
  show V.int _ = V.int _
  congr 1
  split <;> omega
theorem ex_max (hc : X.calm = true) (hm : X.mg "max" = none) (ha : EX X a G M (.int (n : Int)) M1) (hb : EX X b G M1 (.int (m : Int)) M2) (hg : Gl X "max" := by rfl)
    (he : starEach [a, b] X.env = (false, eval a X.env) :: starEach [b] X.env := by rfl) (he2 : starEach [b] X.env = (false, eval b X.env) :: starEach [] X.env := by rfl) (hpl : (backTo pos (starEach [b] X.env)).any (·.1) = false := by rfl) :
    EX X (.Call (.Name "max" p1) [a, b] [] pos) G M (.int ((max n m : Nat) : Int)) M2 := ex_callB (call_max2 hc) max_D hm (ax_cons ha (ax_cons hb ax_nil he2) he) hg (by decide +kernel) (by decide) (by decide) he hpl
theorem all_D {bs : List Bool} : CallD X.K (rAll X.K) [.lst (bs.map Dt.bl)] (.bl (bs.all id)) := CallD.now fun F H vs Q sb r q => by
  obtain ⟨v, r1, rfl, ⟨a, ws, rfl, h1, h2⟩, r3⟩ := r
  have r3 : r1 = [] := r3
  subst r3
  have e : ws = bs.map V.bl := by
    clear h1 q
    induction bs generalizing ws with
    | nil => exact h2
    | cons b bs ih =>
      obtain ⟨v, r, rfl, h3, h4⟩ := h2
      have h3 : v = .bl b := h3
      subst h3
      rw [ih r h4]
      rfl
  subst e
  exact ⟨a, bs, rfl, sb.sqL h1, q _ rfl⟩
theorem ex_all {bs : List Bool} (hc : X.calm = true) (hm : X.mg "all" = none) (ha : EX X e G M (.lst (bs.map Dt.bl)) M1) (hg : Gl X "all" := by rfl) (he : starEach [e] X.env = (false, eval e X.env) :: starEach [] X.env := by rfl) : EX X (.Call (.Name "all" p1) [e] [] pos) G M (.bl (bs.all id)) M1 :=
  ex_callB (cr_all hc) all_D hm (ax_cons ha ax_nil he) hg (by decide +kernel) (by decide) (by decide) he rfl
theorem ex_intS (hm : X.mg "int" = none) (ha : EX X e G M (.str z) M1) (hz : PySem.intText? z = some i) (hl : z.length ≤ 640) (hg : Gl X "int" := by rfl) (he : starEach [e] X.env = (false, eval e X.env) :: starEach [] X.env := by rfl) : EX X (.Call (.Name "int" p1) [e] [] pos) G M (.int i) M1 :=
  ex_callTy call_int_str (CallD.now fun F H vs Q sb r q => by
    obtain ⟨v, r1, rfl, r2, r3⟩ := r
    have e2 : v = .str z := r2
    have e3 : r1 = [] := r3
    subst e2 e3
    exact ⟨z, i, rfl, hz, hl, q _ rfl⟩) hm (ax_cons ha ax_nil he) hg boot_int (by decide) (by decide) he rfl
/-- str(e), up to 4300 digits -/
theorem call_strBig (hc : X.calm = true) (hn : X.base.NoDigits) : CallR X (.type "str") (fun xs H Q => ∃ i, xs = [.int i] ∧ i.natAbs < 10 ^ 4300 ∧ Q (.str (toString i)) H) := by
  intro pins s σ H xs us Q I r h
  obtain ⟨i, rfl, hz, q⟩ := h
  obtain ⟨u, rfl, t, rfl⟩ := vals1 r
  exact PyProof.Rows.str_of_int_or (I.ok.hd hc) (hn.keeps I.bk) (fun _ => ⟨.str _, H, I.tok _, ⟨_, rfl⟩, q⟩) (fun hge => absurd hz (Nat.not_lt.mpr hge))
theorem ex_strI (hc : X.calm = true) (hn : X.base.NoDigits) (hm : X.mg "str" = none) (ha : EX X e G M (.int i) M1) (hz : i.natAbs < 10 ^ 4300) (hg : Gl X "str" := by rfl) (he : starEach [e] X.env = (false, eval e X.env) :: starEach [] X.env := by rfl) : EX X (.Call (.Name "str" p1) [e] [] pos) G M (.str (toString i)) M1 :=
  ex_callTy (call_strBig hc hn) (CallD.now fun F H vs Q sb r q => by
    obtain ⟨v, r1, rfl, r2, r3⟩ := r
    have e2 : v = .int i := r2
    have e3 : r1 = [] := r3
    subst e2 e3
    exact ⟨i, rfl, hz, q _ rfl⟩) hm (ax_cons ha ax_nil he) hg (by decide +kernel) (by decide) (by decide) he rfl
end
end HM

set_option Elab.async false
set_option linter.all false
set_option maxRecDepth 100000
set_option maxHeartbeats 4000000
/-! BI2: lists and texts put together, compared, unpacked; over data. -/
namespace HM
open PySem PySem.Spec PyProof.Rows L2
/-! ### comparing lists -/
section
variable {X : Cx} {l m : List Dt} {s t : Str}
def rEqNil (K : PySem.W.Frag) : R2 := fun x y H Q => ∃ a b xs, x = .ref a ∧ y = .ref b ∧ SqL K H a xs ∧ SqL K H b [] ∧ Q (.bl xs.isEmpty) H
def rNeNil (K : PySem.W.Frag) : R2 := fun x y H Q => ∃ a b xs, x = .ref a ∧ y = .ref b ∧ SqL K H a xs ∧ SqL K H b [] ∧ Q (.bl (!xs.isEmpty)) H
theorem op_eqNil (hu : X.A.units < cLine) : OpR X (compareOp .Eq) (rEqNil X.K) := by
  intro pins s σ H x y v u Q I rx ry h
  obtain ⟨a, b, xs, rfl, rfl, ha, hb, q⟩ := h
  cases rx
  cases ry
  obtain ⟨its, r1, p1, _⟩ := I.list ha
  obtain ⟨its2, r2, p2, _⟩ := I.list hb
  cases r2
  cases r1 with
  | nil => exact SeqAt.RcAt.lists (e := fun _ => true) p1.isList p2.isList rfl hu (fun j h1 _ => absurd h1 (by simp)) X.prog X.w X.xe _ ⟨.bl _, H, I, rfl, q⟩
  | cons r rr => exact SeqAt.RcAt.lists_lengths p1.isList p2.isList (by simp) hu X.prog X.w X.xe _ ⟨.bl _, H, I, rfl, q⟩
theorem op_neNil (hu : X.A.units < cLine) : OpR X (compareOp .NotEq) (rNeNil X.K) := by
  intro pins s σ H x y v u Q I rx ry h
  obtain ⟨a, b, xs, rfl, rfl, ha, hb, q⟩ := h
  cases rx
  cases ry
  obtain ⟨its, r1, p1, _⟩ := I.list ha
  obtain ⟨its2, r2, p2, _⟩ := I.list hb
  cases r2
  cases r1 with
  | nil => exact SeqAt.RcNeAt.lists (e := fun _ => true) p1.isList p2.isList rfl hu (fun j h1 _ => absurd h1 (by simp)) X.prog X.w X.xe _ ⟨.bl _, H, I, rfl, q⟩
  | cons r rr => exact SeqAt.RcNeAt.lists_lengths p1.isList p2.isList (by simp) hu X.prog X.w X.xe _ ⟨.bl _, H, I, rfl, q⟩
theorem Reps.emp {K : PySem.W.Frag} {F : Hp} : ∀ {l : List Dt} {vs : List V}, Reps K F l vs → vs.isEmpty = l.isEmpty
  | [], _, h => by
    have h : _ = [] := h
    rw [h]
    rfl
  | d :: l, vs, h => by
    obtain ⟨v, r, rfl, _⟩ := h
    rfl
theorem c_eqNil (hu : X.A.units < cLine) : CmpOk X .Eq (.lst l) (.lst []) (.bl l.isEmpty) := ⟨_, op_eqNil hu, OpD.now fun F H x y Q sb r1 r2 q => by
  obtain ⟨a, vs, rfl, h1, h2⟩ := r1
  obtain ⟨b, ws, rfl, h3, h4⟩ := r2
  have h4 : ws = [] := h4
  subst h4
  exact ⟨a, b, vs, rfl, rfl, sb.sqL h1, sb.sqL h3, q _ (by rw [h2.emp]; rfl)⟩⟩
theorem c_neNil (hu : X.A.units < cLine) : CmpOk X .NotEq (.lst l) (.lst []) (.bl (!l.isEmpty)) := ⟨_, op_neNil hu, OpD.now fun F H x y Q sb r1 r2 q => by
  obtain ⟨a, vs, rfl, h1, h2⟩ := r1
  obtain ⟨b, ws, rfl, h3, h4⟩ := r2
  have h4 : ws = [] := h4
  subst h4
  exact ⟨a, b, vs, rfl, rfl, sb.sqL h1, sb.sqL h3, q _ (by rw [h2.emp]; rfl)⟩⟩
/-! texts, ints in lists -/
theorem dp_strs {K : PySem.W.Frag} {F H : Hp} (sb : Sub F H) : ∀ {l : List Str} {vs : List V}, Reps K F (l.map Dt.str) vs → DpAll K H vs (l.map PyData.str)
  | [], vs, h => by
    have h : vs = [] := h
    rw [h]
    exact .nil
  | x :: l, vs, h => by
    obtain ⟨v, r, rfl, h1, h2⟩ := h
    have h1 : v = .str x := h1
    subst h1
    exact .cons (.str x) (dp_strs sb h2)
theorem dp_ints {K : PySem.W.Frag} {F H : Hp} (sb : Sub F H) : ∀ {l : List Int} {vs : List V}, Reps K F (l.map Dt.int) vs → DpAll K H vs (l.map PyData.int)
  | [], vs, h => by
    have h : vs = [] := h
    rw [h]
    exact .nil
  | x :: l, vs, h => by
    obtain ⟨v, r, rfl, h1, h2⟩ := h
    have h1 : v = .int x := h1
    subst h1
    exact .cons (.int x) (dp_ints sb h2)
end
/-! ### put together -/
section
variable {X : Cx} {l m : List Dt} {s t : Str}
def rCatL (K : PySem.W.Frag) : R2 := fun x y H Q => ∃ l b xs zs, x = .ref l ∧ y = .ref b ∧ SqL K H l xs ∧ SqL K H b zs ∧ xs.length + zs.length ≤ sizeLine ∧ ∀ p, H p = none → Q (.ref p) (upd H p (.lst (xs ++ zs)))
theorem op_catL : OpR X (binaryOp .Add) (rCatL X.K) := by
  intro pins s σ H x y v u Q I rx ry h
  obtain ⟨l, b, xs, zs, rfl, rfl, hH, hB, hz, q⟩ := h
  cases rx
  cases ry
  obtain ⟨its, r, p1, hl⟩ := I.list hH
  obtain ⟨its2, r2, p2, hl2⟩ := I.list hB
  obtain ⟨⟨cls, dd, data, sl⟩, n, ho, hc, _, hd⟩ := p1
  obtain ⟨⟨cls2, dd2, data2, sl2⟩, n2, ho2, hc2, _, hd2⟩ := p2
  simp only at hc hd hc2 hd2
  subst hc hd hc2 hd2
  have e : its.toArray ++ its2.toArray = (its ++ its2).toArray := by simp
  have n1 := r.length
  have n2' := r2.length
  refine concat_meets ⟨_, ho, rfl⟩ ⟨_, ho2, rfl⟩ noFill_list_add seq_list_add PySem.F.slot_list_add PySem.F.entry_list_add (PySem.F.args_list_add_2 _ _) (list_addW l b its.toArray its2.toArray n n2 dd dd2 sl sl2 (by simp; omega)) ⟨ho, ho2, ?_⟩
  rw [e]
  exact ⟨.ref _, _, I.lnew (t' := s.toks) (r.append r2) (by rw [List.length_append]; omega), rfl, q _ I.fresh⟩
theorem o_catL (h : l.length + m.length ≤ 100000) : OpOk X .Add (.lst l) (.lst m) (.lst (l ++ m)) := ⟨_, op_catL, fun M F H x y Q s r1 r2 q => by
  obtain ⟨a, vs, rfl, h1, h2⟩ := r1
  obtain ⟨b, ws, rfl, h3, h4⟩ := r2
  exact ⟨a, b, vs, ws, rfl, rfl, s.sub.sqL h1, s.sub.sqL h3, by rw [h2.len, h4.len, sizeLine_eq]; omega, fun p hp => q _ _ _ (gr_new s hp) (s.new hp) ⟨p, _, rfl, SqL.of upd_same, Reps.mono (sub_upd (s.free hp)) _ (h2.app h4)⟩⟩⟩
theorem o_catT (h : l.length + m.length ≤ 100000) : OpOk X .Add (.tup l) (.tup m) (.tup (l ++ m)) := ⟨_, op_catA, fun M F H x y Q s r1 r2 q => by
  obtain ⟨a, vs, rfl, h1, h2⟩ := r1
  obtain ⟨b, ws, rfl, h3, h4⟩ := r2
  refine ⟨a, b, vs, ws, rfl, rfl, s.sub.sqT h1, s.sub.sqT h3, by rw [h2.len, h4.len, sizeLine_eq]; omega, fun e => ?_, fun _ e => ?_, fun _ _ p hp => q _ _ _ (gr_new s hp) (s.new hp) ⟨p, _, rfl, SqT.of upd_same, Reps.mono (sub_upd (s.free hp)) _ (h2.app h4)⟩⟩
  · subst e
    have hl : l = [] := List.length_eq_zero_iff.mp (h2.len.symm.trans rfl)
    subst hl
    exact q _ F H (Gr.refl _ _ _) s ⟨b, ws, rfl, h3, h4⟩
  · subst e
    have hl : m = [] := List.length_eq_zero_iff.mp (h4.len.symm.trans rfl)
    subst hl
    exact q _ F H (Gr.refl _ _ _) s ⟨a, vs, rfl, h1, by rw [List.append_nil]; exact h2⟩⟩
theorem o_catS (h : s.length + t.length ≤ 100000) : OpOk X .Add (.str s) (.str t) (.str (s ++ t)) := ⟨_, op_add_str, OpD.now fun F H x y Q sb r1 r2 q => ⟨s, t, r1, r2, by rw [sizeLine_eq]; omega, q _ rfl⟩⟩
end
/-! ### a, b, .. = a list -/
def gLst (K : PySem.W.Frag) (n : Nat) (t : TGs) : TG := fun v σ H Q => ∃ a xs, v = .ref a ∧ SqL K H a xs ∧ xs.length = n ∧ t xs σ H Q
theorem pg_lst {X : Cx} {es : List Expr} {k : Nat} {t : TGs} {n : Nat} {pos : Pos} (hc : X.calm = true) (h : PGs X es t)
    (hn : (assignEach es X.env).length = n := by rfl) (hst : (assignEach es X.env).findIdx? (·.1) = none := by rfl) : PG X (.Tuple es k pos) (gLst X.K n t) := by
  refine ⟨fun pins s σ H v u Q I r hw => ?_⟩
  obtain ⟨a, xs, e1, hq, hl, hw⟩ := hw
  subst e1
  cases r
  obtain ⟨its, rv, ht, hz⟩ := I.list hq
  rw [assign_Tuple]
  refine wpAny_bind (wpAny_standAt ?_)
  unfold unpack
  have e : (assignEach es X.env).length = its.toArray.size := by simp [hn, ← hl, rv.length]
  rw [e, hst]
  refine wpAny_bind (wpAny_holding (PySem.W.kun_itemsOf (I.ok.hd hc) ht.isList fun h' hx => ?_))
  have I1 : Inv X pins σ H { s with heap := h' } := I.kept (t' := s.toks) fun b o e => hx b o (Nat.ne_of_lt (Heap.lt_size e)) e
  exact h.run pins _ σ H xs _ Q I1 (by simpa using rv) hw
theorem gx_lst {X : Cx} {es : List Expr} {k : Nat} {G G1 : List (Option Dt)} {ds : List Dt} {pos : Pos} (hc : X.calm = true) (h : GXs X es G ds G1) (hn : (assignEach es X.env).length = ds.length := by rfl) (hst : (assignEach es X.env).findIdx? (·.1) = none := by rfl) : GX X (.Tuple es k pos) G (.lst ds) G1 := by
  obtain ⟨g, p, h⟩ := h
  refine fun v σ F H Q r sb rv q => w_g (pg_lst hc p hn hst) ?_
  obtain ⟨a, vs, rfl, h1, h2⟩ := rv
  exact ⟨a, vs, rfl, sb.sqL h1, h2.len, h vs σ F H Q r sb h2 q⟩
end HM

set_option Elab.async false
set_option linter.all false
set_option maxRecDepth 100000
set_option maxHeartbeats 4000000
/-! BI3: more of that. -/
namespace HM
open PySem PySem.Spec PyProof.Rows L2
section
variable {X : Cx} {e a b : Expr} {es : List Expr} {G : List (Option Dt)} {M M1 M2 M3 : Mst} {d : Dt} {ds : List Dt} {pos p1 p2 p3 : Pos} {i j : Int} {n : Nat} {z : Str}
/-! lists of texts, of ints -/
theorem c_eqSs {l m : List Str} (hu : X.A.units + 64 < cLine) (h1 : SeqAt.shaped (.list (l.map PyData.str)) = true) (h2 : SeqAt.shaped (.list (m.map PyData.str)) = true) {k : Bool} (hk : PyData.eqv (.list (l.map PyData.str)) (.list (m.map PyData.str)) = k) : CmpOk X .Eq (.lst (l.map Dt.str)) (.lst (m.map Dt.str)) (.bl k) := ⟨_, op_eqD hu, OpD.now fun F H x y Q sb r1 r2 q => by
  obtain ⟨a, vs, rfl, h3, h4⟩ := r1
  obtain ⟨b, ws, rfl, h5, h6⟩ := r2
  exact ⟨_, _, .lst (sb.sqL h3) (dp_strs sb h4), .lst (sb.sqL h5) (dp_strs sb h6), h1, h2, q _ (by rw [hk]; rfl)⟩⟩
theorem c_neSs {l m : List Str} (hu : X.A.units + 64 < cLine) (h1 : SeqAt.shaped (.list (l.map PyData.str)) = true) (h2 : SeqAt.shaped (.list (m.map PyData.str)) = true) {k : Bool} (hk : (!PyData.eqv (.list (l.map PyData.str)) (.list (m.map PyData.str))) = k) : CmpOk X .NotEq (.lst (l.map Dt.str)) (.lst (m.map Dt.str)) (.bl k) := ⟨_, op_neD hu, OpD.now fun F H x y Q sb r1 r2 q => by
  obtain ⟨a, vs, rfl, h3, h4⟩ := r1
  obtain ⟨b, ws, rfl, h5, h6⟩ := r2
  exact ⟨_, _, .lst (sb.sqL h3) (dp_strs sb h4), .lst (sb.sqL h5) (dp_strs sb h6), h1, h2, q _ (by rw [hk]; rfl)⟩⟩
theorem ints_shaped (l : List Int) : SeqAt.shaped (.list (l.map PyData.int)) = true := by
  have h1 : PyData.canLayAll0 (l.map PyData.int) = true := by
    induction l with
    | nil => rfl
    | cons x l ih => simp [PyData.canLayAll0, PyData.canLay0, ih]
  have h2 : PyData.depthAll (l.map PyData.int) = 0 := by
    clear h1
    induction l with
    | nil => rfl
    | cons x l ih => simp [PyData.depthAll, PyData.depth, ih]
  simp [SeqAt.shaped, PyData.canLay0, PyData.depth, h1, h2]
theorem ints_eqv (l : List Int) : PyData.eqv (.list (l.map PyData.int)) (.list (l.map PyData.int)) = true := by
  show PyData.eqvAll _ _ = true
  induction l with
  | nil => rfl
  | cons x l ih => simp [PyData.eqvAll, PyData.eqv, ih]
theorem c_eqIs {l : List Int} (hu : X.A.units + 64 < cLine) : CmpOk X .Eq (.lst (l.map Dt.int)) (.lst (l.map Dt.int)) (.bl true) := ⟨_, op_eqD hu, OpD.now fun F H x y Q sb r1 r2 q => by
  obtain ⟨a, vs, rfl, h3, h4⟩ := r1
  obtain ⟨b, ws, rfl, h5, h6⟩ := r2
  exact ⟨_, _, .lst (sb.sqL h3) (dp_ints sb h4), .lst (sb.sqL h5) (dp_ints sb h6), ints_shaped l, ints_shaped l, q _ (by rw [ints_eqv]; rfl)⟩⟩
/-! [..] * n -/
theorem Reps.rep {K : PySem.W.Frag} {F : Hp} {l : List Dt} {vs : List V} (h : Reps K F l vs) : ∀ n, Reps K F (List.replicate n l).flatten (List.replicate n vs).flatten
  | 0 => rfl
  | n + 1 => by
    simp only [List.replicate_succ, List.flatten_cons]
    exact h.app (Reps.rep h n)
theorem ex_rep (ha : AX X es G M ds M1) (he : EX X e G M1 (.int (n : Int)) M2) (hl : ds.length * n ≤ 100000) (h0 : n ≠ 0) (hn : n ≤ 100000) : EX X (.BinOp (.List es p1) .Mult e pos) G M (.lst (List.replicate n ds).flatten) M2 :=
  ⟨he.1.trans ha.1, fun σ F H Q r s q => w_e (pe_op op_rep (pe_lst pa_w) pe_w) (ha.2 σ F H _ r s fun vs F1 H1 g1 s1 r1 => ⟨(by
    have h2 := r1.len
    rw [sizeLine_eq]
    have : ds.length * 1 ≤ ds.length * n := Nat.mul_le_mul_left _ (Nat.one_le_iff_ne_zero.mpr h0)
    omega), fun p hp => by
    have s2 := s1.new (o := .lst vs) hp
    have g2 := gr_new (o := .lst vs) s1 hp
    refine he.2 σ _ _ _ (r.mono (g1.sub.trans g2.sub)) s2 fun v F3 H3 g3 s3 r3 => ?_
    have r3 : v = .int (n : Int) := r3
    subst r3
    have hH : H3 p = some (.lst vs) := s3.sub _ _ (g3.sub _ _ upd_same)
    refine ⟨p, (n : Int), vs, rfl, rfl, hH, by omega, by omega, by rw [r1.len, sizeLine_eq, Int.toNat_natCast]; omega, fun p4 hp4 => ?_⟩
    rw [Int.toNat_natCast]
    have hd1 := ha.1
    exact q _ _ _ (gr2 (he.1.trans ha.1) (gr2 ha.1 (g1.trans' (hd1 ▸ g2)) g3) (gr_new s3 hp4)) (s3.new hp4) ⟨p4, _, rfl, SqL.of upd_same, Reps.mono (sub_upd (s3.free hp4)) _ (Reps.rep (Reps.mono (g2.sub.trans g3.sub) _ r1) n)⟩⟩)⟩
/-! texts -/
/-- s * n -/
def mulS (z : Str) (n : Nat) : Str := if n = 0 then Str.empty else if n = 1 ∨ z.length = 0 then z else ⟨(List.replicate n z.cps).foldl (· ++ ·) #[]⟩
theorem op_mulS : OpR X (binaryOp .Mult) (fun x y H Q => ∃ (z : Str) (n : Nat), x = .str z ∧ y = .int (n : Int) ∧ z.length ≤ 1000 ∧ n ≤ 1000 ∧ z.length * n ≤ 100000 ∧ Q (.str (mulS z n)) H) := by
  intro pins s σ H x y v u Q I rx ry h
  obtain ⟨z, n, rfl, rfl, hz1, hn, hz, q⟩ := h
  obtain ⟨t, rfl⟩ := rx
  obtain ⟨t2, rfl⟩ := ry
  have big : ∀ m : Nat, m ≤ 100000 → Builtin.Str.tooLong m = false := fun m hm => by
    unfold Builtin.Str.tooLong
    first
      | exact decide_eq_false (by rw [sizeLine_eq]; omega)
      | (simp [sizeLine_eq]; omega)
  refine PySem.P.mul_str (by
      have h1 : ¬ ((n : Int) < -(2 ^ 63 : Int)) := by omega
      have h2 : ¬ ((n : Int) ≥ 2 ^ 63) := by omega
      rw [decide_eq_false h1, decide_eq_false h2]; rfl) (fun h1 _ => ?_) (fun _ _ => big _ (by rw [Int.toNat_natCast]; exact hz)) ?_
  · have hn1 : 1 ≤ n := by omega
    have : (1000 : Int) ≤ (2 ^ 63 - 1) / (n : Int) := by
      rw [Int.le_ediv_iff_mul_le (by omega)]
      omega
    omega
  · by_cases h0 : n = 0
    · subst h0
      rw [if_pos (by decide)]
      exact ⟨by decide, .str _, H, I.tok _, ⟨_, rfl⟩, by unfold mulS at q; simpa using q⟩
    · rw [if_neg (by omega)]
      by_cases h1 : ((n : Int) == 1 || z.length == 0) = true
      · rw [if_pos h1]
        have : n = 1 ∨ z.length = 0 := by
          rcases Bool.or_eq_true_iff.mp h1 with h | h
          · exact .inl (by have := eq_of_beq h; omega)
          · exact .inr (eq_of_beq h)
        refine ⟨.str z, H, I, ⟨_, rfl⟩, ?_⟩
        unfold mulS at q
        rw [if_neg h0, if_pos this] at q
        exact q
      · rw [if_neg h1]
        have h2 : ¬ (n = 1 ∨ z.length = 0) := fun h => h1 (by
          rcases h with h | h
          · subst h; rfl
          · rw [h]; simp)
        unfold mulS at q
        rw [if_neg h0, if_neg h2] at q
        rw [Int.toNat_natCast]
        refine ⟨?_, .str _, H, I.tok _, ⟨_, rfl⟩, q⟩
        rw [sizeLine_eq]
        have key : ∀ (m : Nat) (acc : Array Nat), ((List.replicate m z.cps).foldl (· ++ ·) acc).size = acc.size + z.cps.size * m := by
          intro m
          induction m with
          | zero => intro acc; simp
          | succ m ih =>
            intro acc
            rw [List.replicate_succ, List.foldl_cons, ih]
            simp [Nat.mul_succ]
            omega
        show (List.foldl (· ++ ·) #[] (List.replicate n z.cps)).size ≤ _
        rw [key]
        have : z.cps.size * n ≤ 100000 := hz
        simp
        omega
theorem o_mulS (hz1 : z.length ≤ 1000) (hn : n ≤ 1000) (h : z.length * n ≤ 100000) : OpOk X .Mult (.str z) (.int (n : Int)) (.str (mulS z n)) := ⟨_, op_mulS, OpD.now fun F H x y Q sb r1 r2 q => ⟨z, n, r1, r2, hz1, hn, h, q _ rfl⟩⟩
/-- f'{a}z{b}', ints -/

theorem tInt_len (h : i.natAbs < 10 ^ 4300) : (Str.ofString (toString i)).length ≤ 4301 := by
  rw [PySem.ofString_length]
  exact int_text_length_le10 (k := 4300) (by decide) h
def tFmtB (te : TE) : TE := fun σ H Q => te σ H fun x H1 => ∃ i : Int, x = .int i ∧ i.natAbs < 10 ^ 4300 ∧ Q (.str (toString i)) H1
theorem pe_fmtB {te : TE} (hc : X.calm = true) (hn : X.base.NoDigits) (he : PE X e te) : PE X (.FormattedValue e (-1) none pos) (tFmtB te) := by
  refine ⟨fun pins s σ H Q I h => ?_⟩
  refine wpAny_FormattedValue_plain (thn (he.run pins s σ H _ I h) fun v s1 ⟨x, H1, I1, r1, q⟩ => ?_)
  obtain ⟨i, rfl, hz, q⟩ := q
  obtain ⟨t, rfl⟩ := r1
  exact PyProof.Rows.formatField_int (I1.ok.hd hc) (hn.keeps I1.bk) (fun _ => ⟨.str (toString i), H1, I1.tok _, ⟨_, rfl⟩, q⟩) (fun hge => absurd hz (Nat.not_lt.mpr hge))
theorem ex_fs3 {k} (hc : X.calm = true) (hn : X.base.NoDigits) (ha : EX X a G M (.int i) M1) (hb : EX X b G M1 (.int j) M2) (hi : i.natAbs < 10 ^ 4300) (hj : j.natAbs < 10 ^ 4300) (hz : z.length ≤ 1000) :
    EX X (.JoinedStr [.FormattedValue a (-1) none p1, .Constant (.str z) k p2, .FormattedValue b (-1) none p3] pos) G M (.str (((Str.empty ++ toString i) ++ z) ++ toString j)) M2 :=
  ⟨hb.1.trans ha.1, fun σ F H Q r s q => w_e (pe_joined (.cons (pe_fmtB hc hn pe_w) (.cons pe_str (.cons (pe_fmtB hc hn pe_w) .nil)))) (ha.2 σ F H _ r s fun v F1 H1 g1 s1 r1 => by
    have ea : ∀ x y : Str, (x ++ y).length = x.length + y.length := fun x y => Array.size_append
    have l1 := tInt_len hi
    have l2 := tInt_len hj
    have l0 : Str.empty.length = 0 := rfl
    refine ⟨i, r1, hi, toString i, rfl, ?_, z, rfl, ?_, ?_⟩
    · rw [ea, sizeLine_eq]
      omega
    · rw [ea, ea, sizeLine_eq]
      omega
    · refine hb.2 σ F1 H1 _ (r.mono g1.sub) s1 fun v2 F2 H2 g2 s2 r2 => ⟨j, r2, hj, toString j, rfl, ?_, q _ F2 H2 (gr2 ha.1 g1 g2) s2 rfl⟩
      rw [ea, ea, ea, sizeLine_eq]
      omega)⟩
/-! calls -/
theorem sorted_D {xs zs : List Str} (h64 : xs.length < 64) (hu : ∀ ys : List Str, ys.Perm xs → sortedS ys = true → ys = zs) : CallD X.K (rSortedS X.K) [.lst (xs.map Dt.str)] (.lst (zs.map Dt.str)) := fun M F H vs Q s r q => by
  obtain ⟨v, r1, rfl, ⟨a, ws, rfl, h1, h2⟩, r3⟩ := r
  have r3 : r1 = [] := r3
  subst r3
  have e : ∀ {xs : List Str} {ws : List V}, Reps X.K F (xs.map Dt.str) ws → ws = xs.map V.str := by
    intro xs
    induction xs with
    | nil => intro ws h; exact h
    | cons b bs ih =>
      intro ws h
      obtain ⟨v, r, rfl, h3, h4⟩ := h
      have h3 : v = .str b := h3
      subst h3
      rw [ih h4]
      rfl
  have e := e h2
  subst e
  refine ⟨a, xs, rfl, s.sub.sqL h1, h64, fun ys p hp hs hn => ?_⟩
  rw [hu ys hp hs]
  exact q _ _ _ (gr_new s hn) (s.new hn) ⟨p, _, rfl, SqL.of upd_same, Reps.strs _⟩
theorem ex_sorted {xs zs : List Str} (hm : X.mg "sorted" = none) (ha : EX X e G M (.lst (xs.map Dt.str)) M1) (h64 : xs.length < 64) (hu : ∀ ys : List Str, ys.Perm xs → sortedS ys = true → ys = zs) (hg : Gl X "sorted" := by rfl) (he : starEach [e] X.env = (false, eval e X.env) :: starEach [] X.env := by rfl) :
    EX X (.Call (.Name "sorted" p1) [e] [] pos) G M (.lst (zs.map Dt.str)) M1 := ex_callB cr_sortedS (sorted_D h64 hu) hm (ax_cons ha ax_nil he) hg (by decide +kernel) (by decide) (by decide) he rfl
theorem call_reprS : CallR X (.builtin "repr") (fun xs H Q => ∃ z, xs = [.str z] ∧ (reprText z).length ≤ sizeLine ∧ Q (.str (reprText z)) H) := by
  intro pins s σ H xs us Q I r h
  obtain ⟨i, rfl, hz, q⟩ := h
  obtain ⟨u, rfl, t, rfl⟩ := vals1 r
  exact PySem.P.repr_of_str ⟨.str _, H, I.tok _, ⟨_, rfl⟩, q⟩ hz
theorem ex_listL {l : List Dt} (hm : X.mg "list" = none) (ha : EX X e G M (.lst l) M1) (hg : Gl X "list" := by rfl) (he : starEach [e] X.env = (false, eval e X.env) :: starEach [] X.env := by rfl) : EX X (.Call (.Name "list" p1) [e] [] pos) G M (.lst l) M1 :=
  ex_callTy call_list_of (fun M F H vs Q s r q => by
    obtain ⟨v, r1, rfl, ⟨a, ws, rfl, h1, h2⟩, r3⟩ := r
    have r3 : r1 = [] := r3
    subst r3
    exact ⟨a, ws, rfl, .inl (s.sub.sqL h1), fun p hp => q _ _ _ (gr_new s hp) (s.new hp) ⟨p, _, rfl, SqL.of upd_same, Reps.mono (sub_upd (s.free hp)) _ h2⟩⟩) hm (ax_cons ha ax_nil he) hg (by decide +kernel) (by decide) (by decide) he rfl
theorem ex_tupL {l : List Dt} (hm : X.mg "tuple" = none) (ha : EX X e G M (.lst l) M1) (hg : Gl X "tuple" := by rfl) (he : starEach [e] X.env = (false, eval e X.env) :: starEach [] X.env := by rfl) : EX X (.Call (.Name "tuple" p1) [e] [] pos) G M (.tup l) M1 :=
  ex_callTy call_tuple_of (fun M F H vs Q s r q => by
    obtain ⟨v, r1, rfl, ⟨a, ws, rfl, h1, h2⟩, r3⟩ := r
    have r3 : r1 = [] := r3
    subst r3
    exact ⟨a, ws, rfl, .inl ⟨s.sub.sqL h1, fun p hp => q _ _ _ (gr_new s hp) (s.new hp) ⟨p, _, rfl, SqT.of upd_same, Reps.mono (sub_upd (s.free hp)) _ h2⟩⟩⟩) hm (ax_cons ha ax_nil he) hg (by decide +kernel) (by decide) (by decide) he rfl
end
end HM

set_option Elab.async false
set_option linter.all false
set_option maxRecDepth 100000
set_option maxHeartbeats 4000000
/-! CM4: comprehensions that change nothing: map, filter. -/
namespace HM
open PySem PySem.Spec PyProof.Rows L2 HTN L2H
theorem take_snoc {α : Type} {l : List α} {j : Nat} {d : α} (h : l[j]? = some d) : l.take (j + 1) = l.take j ++ [d] := by
  rw [List.take_succ, h]
  rfl
section
variable {X : Cx} {iter elt c : Expr} {scope : Scope} {G : List (Option Dt)} {M : Mst} {ds : List Dt} {pos px : Pos} {x : Str}
theorem ex_lcMap (i : Nat) (f : Dt → Dt) (hc : X.calm = true) (hN : X.N.Nodup) (hi : IX X (.Name x px) iter G M ds M) (ok : BlkOk X.N X.env.scope scope [(x, i)]) (hlen : ds.length ≤ 100000)
    (hs : ∀ d ∈ ds, ∀ s H C cl fp, EX (Xb X scope s H C cl fp) elt (G.set i (some d)) M (f d) M)
    (hx : ∀ s H C cl fp, Loc (Xb X scope s H C cl fp).env.scope x := by intro _ _ _ _ _; exact Or.inl rfl) (hf : ∀ s H C cl fp, (Xb X scope s H C cl fp).fn x = true ∨ (Xb X scope s H C cl fp).env.scope.names.lookup x = some .local := by intro _ _ _ _ _; exact Or.inr rfl)
    (hXi : X.N[i]? = some x := by rfl) (hsw : ∀ x, foldedSetIterable iter X.env x = pure x := by intro _; rfl) : EX X (.ListComp elt [⟨.Name x px, iter, [], 0⟩] scope pos) G M (.lst (ds.map f)) M :=
  ex_lcI i hc hN hi ok (fun j Mi acc => Mi = M ∧ acc = (ds.take j).map f) ⟨rfl, rfl⟩ (fun j Mi acc ⟨e1, e2⟩ => ⟨by rw [e1], by rw [e2, List.length_map, List.length_take]; omega⟩)
    (fun j d Mi acc hj ⟨e1, e2⟩ => ⟨f d, M, by subst e1; exact hs d (List.mem_of_getElem? hj), rfl, by rw [e2, take_snoc hj, List.map_append]; rfl⟩) (fun Mn acc ⟨e1, e2⟩ => ⟨e1, by rw [e2, List.take_length]⟩) rfl hx hf hXi hsw
theorem ex_lcFil (i : Nat) (f : Dt → Dt) (p : Dt → Bool) (hc : X.calm = true) (hN : X.N.Nodup) (hi : IX X (.Name x px) iter G M ds M) (ok : BlkOk X.N X.env.scope scope [(x, i)]) (hlen : ds.length ≤ 100000)
    (ht : ∀ d ∈ ds, ∀ s H C cl fp, TX (Xb X scope s H C cl fp) c (G.set i (some d)) M (p d) M) (hs : ∀ d ∈ ds, ∀ s H C cl fp, EX (Xb X scope s H C cl fp) elt (G.set i (some d)) M (f d) M)
    (hx : ∀ s H C cl fp, Loc (Xb X scope s H C cl fp).env.scope x := by intro _ _ _ _ _; exact Or.inl rfl) (hf : ∀ s H C cl fp, (Xb X scope s H C cl fp).fn x = true ∨ (Xb X scope s H C cl fp).env.scope.names.lookup x = some .local := by intro _ _ _ _ _; exact Or.inr rfl)
    (hXi : X.N[i]? = some x := by rfl) (hsw : ∀ x, foldedSetIterable iter X.env x = pure x := by intro _; rfl) : EX X (.ListComp elt [⟨.Name x px, iter, [c], 0⟩] scope pos) G M (.lst ((ds.filter p).map f)) M :=
  ex_lcIf i hc hN hi ok (fun j Mi acc => Mi = M ∧ acc = ((ds.take j).filter p).map f) ⟨rfl, rfl⟩ (fun j Mi acc ⟨e1, e2⟩ => ⟨by rw [e1], by
      rw [e2, List.length_map]
      have := List.length_filter_le p (ds.take j)
      rw [List.length_take] at this
      omega⟩)
    (fun j d Mi acc hj ⟨e1, e2⟩ => by
      subst e1
      refine ⟨p d, Mi, ht d (List.mem_of_getElem? hj), rfl, fun hb => ⟨f d, Mi, hs d (List.mem_of_getElem? hj), rfl, ?_⟩, fun hb => ⟨rfl, ?_⟩⟩
      · rw [e2, take_snoc hj, List.filter_append, List.map_append]
        simp [hb]
      · rw [e2, take_snoc hj, List.filter_append]
        simp [hb]) (fun Mn acc ⟨e1, e2⟩ => ⟨e1, by rw [e2, List.take_length]⟩) rfl hx hf hXi hsw
end
end HM

set_option Elab.async false
set_option linter.all false
set_option maxRecDepth 100000
set_option maxHeartbeats 4000000
set_option exponentiation.threshold 100000
/-! K6: texts. -/
namespace K1
open PySem PySem.Spec PyProof.Rows L2 HM TX XN
def dgS : Str := "0123456789"
/-- all are figures -/
def dgs (z : Str) : Bool := z.cps.toList.all fun c => decide (c ∈ dgS.cps.toList)
def isCount (z : Str) (zero : Bool) : Bool := if z = "0" then zero else match z.cps.toList with
  | [] => false
  | c :: _ => if decide (60 < z.length) || decide (c = 48) then false else dgs z
def cCount : Ct := fun ds M R _ => ∃ (z : Str) (zero : Bool), ds = [.str z, .bl zero] ∧ z.length ≤ 100000 ∧ R (.bl (isCount z zero)) M
theorem str_nil {z : Str} (h : z.cps.toList = []) : z = "" := by
  cases z with
  | mk c => exact congrArg Str.mk (by rw [← Array.toList_inj]; exact h)
theorem one_str {c : Nat} : decide ((⟨#[c]⟩ : Str) = "0") = decide (c = 48) := by
  apply decide_eq_decide.mpr
  constructor
  · intro h
    have h2 : (⟨#[c]⟩ : Str) = ⟨#[48]⟩ := h
    have h3 := congrArg Str.cps h2
    simpa using h3
  · intro h
    subst h
    rfl
section
variable {P : Program} {w : World} {K : PySem.W.Frag} {mg : Str → Option Value} {base : Heap} {cl : Nat → Addr}
theorem b_is_count (B : Bl mg) (hmost : ∃ t, mg "MOST_DIGITS" = some (.int 60 t)) : BodyOk P w K mg base N_is_count ["text", "zero"] "_is_count" s_is_count 0 cCount := by
  intro f cdv A outer s H E ds M R Z hr hl ⟨z, zero, e, hz, hR⟩
  subst e
  refine ss_cons (s1_if (tx_cp (ex_nm 0) ex_str c_eqS) (fun h => ?_) fun h => ss_nil ?_)
  · have h : z = "0" := of_decide_eq_true h
    unfold isCount at hR
    rw [if_pos h] at hR
    exact ss_one (s1_ret (ex_nm 1) (.of hR))
  · have h : ¬ z = "0" := of_decide_eq_false h
    unfold isCount at hR
    rw [if_neg h] at hR
    cases hcs : z.cps.toList with
    | nil =>
      have := str_nil hcs
      rw [hcs] at hR
      refine ss_cons (s1_if (k := true) (tx_w (wx_or (k2 := true) ((tx_cp (ex_nm 0) ex_str c_eqS).is (decide_eq_true this)) fun z => absurd z (by simp))) (fun _ => ss_one (s1_ret ex_bl (.of hR))) fun z => absurd z (by simp))
    | cons c r =>
      rw [hcs] at hR
      have hR : R (.bl (if (decide (60 < z.length) || decide (c = 48)) = true then false else dgs z)) M := hR
      have hne : ¬ z = "" := fun e => by rw [e] at hcs; cases hcs
      refine ss_cons (s1_if (k := decide (60 < z.length) || decide (c = 48)) (M1 := M) ?_ (fun q => ?_) fun q => ss_nil ?_)
      · refine ET.is (tx_w (wx_or ((tx_cp (ex_nm 0) ex_str c_eqS).is (decide_eq_false hne)) fun _ => wx_or ((tx_cp (ex_len (len_str hz) B.len (ex_nm 0)) (ex_globI hmost) c_gt).is (k2 := decide (60 < z.length)) ?_) fun _ => wx_or1 ((tx_cp (ex_at (ex_nm 0) ex_int (i_str (n := 0) (by rw [hcs]; rfl) hz)) ex_str c_eqS).is one_str))) (by simp)
        exact decide_eq_decide.mpr (by omega)
      · rw [if_pos q] at hR
        exact ss_one (s1_ret ex_bl (.of hR))
      · rw [if_neg (by rw [q]; decide)] at hR
        refine ss_one (s1_ret (EE.is (ex_all (bs := (z.cps.toList.map fun c => decide (c ∈ dgS.cps.toList))) rfl B.all (EE.is (ex_lcMap 2 (fun d => match d with | .str y => .bl (decide (y.cps.toList.getD 0 0 ∈ dgS.cps.toList)) | d => d) rfl sc_is_count.nd (ix_chs (ex_nm 0)) (by exact (show BlkOk N_is_count (defScope s_is_count) _ [("sign", 2)] from ⟨rfl, by decide +kernel, by decide +kernel, by decide +kernel, by decide +kernel⟩)) (by rw [chs_len]; exact hz) fun d hd s H C cl fp => ?_) ?_)) ?_) (.of hR))
        · obtain ⟨c, hc, rfl⟩ := List.mem_map.mp hd
          exact ex_cp (ex_nm 2) ex_str c_inS
        · simp [chs, List.map_map]
        · simp [dgs, List.all_map]
end
end K1

set_option Elab.async false
set_option linter.all false
set_option maxRecDepth 100000
set_option maxHeartbeats 4000000
set_option exponentiation.threshold 100000
/-! K7: limit, fraction_or_none, read_fraction, fraction_text. -/
namespace K1
open PySem PySem.Spec PyProof.Rows L2 HM TX XN
open PySem.NumText (AllDigits digitsVal)
structure Bds (K : PySem.W.Frag) (w : World) (mg : Str → Option Value) (bd : Addr) : Prop where
  mg : mg "BOUNDS" = some (.ref bd)
  kd : ∃ es n, KDict K w bd es n
  hit : ∃ t, PySem.W.nsIn K bd "bits" = some (some (.int 12000 t))
def cLimit : Ct := fun ds M R _ => ds = [.str "bits"] ∧ R (.int 12000) M
/-! texts of figures -/
def numV (z : Str) : Nat := digitsVal z.cps.toList
theorem dgs_all {z : Str} (h : dgs z = true) : AllDigits z.cps.toList := fun c hc => by
  have := List.all_eq_true.mp h c hc
  have h2 : c ∈ dgS.cps.toList := of_decide_eq_true this
  have h3 : c ∈ [48, 49, 50, 51, 52, 53, 54, 55, 56, 57] := h2
  simp at h3
  omega
theorem foldl_le : ∀ (cs : List Nat) (a : Nat), AllDigits cs → cs.foldl (fun acc c => acc * 10 + (c - 48)) a < (a + 1) * 10 ^ cs.length
  | [], a, _ => by simp
  | c :: cs, a, h => by
    have h1 := h c List.mem_cons_self
    have ih := foldl_le cs (a * 10 + (c - 48)) h.tail
    refine Nat.lt_of_lt_of_le ih ?_
    rw [List.length_cons, Nat.pow_succ, Nat.mul_comm (10 ^ cs.length) 10, ← Nat.mul_assoc]
    exact Nat.mul_le_mul_right _ (by omega)
theorem foldl_ge : ∀ (cs : List Nat) (a : Nat), 0 < a → 0 < cs.foldl (fun acc c => acc * 10 + (c - 48)) a
  | [], a, h => h
  | c :: cs, a, h => foldl_ge cs (a * 10 + (c - 48)) (by omega)
structure CntOk (z : Str) : Prop where
  ad : AllDigits z.cps.toList
  ne : z.cps.toList ≠ []
  len : z.length ≤ 60
theorem isCount_ok {z : Str} {k : Bool} (h : isCount z k = true) : CntOk z := by
  unfold isCount at h
  by_cases h0 : z = "0"
  · subst h0
    exact ⟨fun c hc => by
      have : c ∈ [48] := hc
      simp at this
      omega, (by decide), by decide⟩
  · rw [if_neg h0] at h
    cases hc : z.cps.toList with
    | nil => rw [hc] at h; cases h
    | cons c r =>
      rw [hc] at h
      have h : (if (decide (60 < z.length) || decide (c = 48)) = true then false else dgs z) = true := h
      split at h
      · cases h
      · rename_i hn
        have hn : ¬ (60 < z.length) ∧ ¬ c = 48 := by simpa using hn
        have := dgs_all h
        exact ⟨this, by simp [hc], by omega⟩
theorem isCount_pos {z : Str} (h : isCount z false = true) : 0 < numV z := by
  have ok := isCount_ok h
  unfold isCount at h
  by_cases h0 : z = "0"
  · rw [if_pos h0] at h; cases h
  · rw [if_neg h0] at h
    cases hc : z.cps.toList with
    | nil => rw [hc] at h; cases h
    | cons c r =>
      rw [hc] at h
      have h : (if (decide (60 < z.length) || decide (c = 48)) = true then false else dgs z) = true := h
      split at h
      · cases h
      · rename_i hn
        have hn : ¬ (60 < z.length) ∧ ¬ c = 48 := by simpa using hn
        have hd := ok.ad c (by rw [hc]; exact List.mem_cons_self)
        unfold numV digitsVal
        rw [hc]
        exact foldl_ge r (0 * 10 + (c - 48)) (by omega)
theorem CntOk.lt {z : Str} (h : CntOk z) : numV z < 10 ^ 60 := by
  have := foldl_le z.cps.toList 0 h.ad
  refine Nat.lt_of_lt_of_le this ?_
  rw [Nat.zero_add, Nat.one_mul]
  exact Nat.pow_le_pow_right (by decide) (by simpa [Str.length] using h.len)
theorem CntOk.txt {z : Str} (h : CntOk z) : PySem.intText? z = some (numV z : Int) := PySem.intText_digits h.ad h.ne (by have := h.len; omega)
def optD : Option (Nat × Nat) → Dt
  | none => .non
  | some p => pr p
def slS : Str := "/"
def frText (z : Str) : Option (Nat × Nat) := if Txt.find z slS < 0 then (if isCount z true then some (numV z, 1) else none)
  else if isCount (cutS z none (some (Txt.find z slS))) true && isCount (cutS z (some (Txt.find z slS + 1)) none) false then some (lowN (numV (cutS z none (some (Txt.find z slS)))) (numV (cutS z (some (Txt.find z slS + 1)) none))) else none
def cFon : Ct := fun ds M R _ => ∃ z, ds = [.str z] ∧ z.length ≤ 100000 ∧ R (optD (frText z)) M
def cReadF (cl : Nat → Addr) : Ct := fun ds M R Z => ∃ d, ds = [d] ∧ d.kn = true ∧ (∀ z, d = .str z → z.length ≤ 100000) ∧ match d with
  | .str z => (match frText z with | none => Z (cl 1) (cks 1) (cfs 1 [d]) M | some p => R (pr p) M)
  | _ => Z (cl 1) (cks 1) (cfs 1 [d]) M
theorem cutS_len (z : Str) (lo hi : Option Int) : (cutS z lo hi).length ≤ z.length := by
  unfold cutS Str.length
  simp
  omega
section
variable {P : Program} {w : World} {K : PySem.W.Frag} {mg : Str → Option Value} {base : Heap} {cl : Nat → Addr} {bd : Addr}
theorem b_limit (B : Bl mg) (D : Bds K w mg bd) : BodyOk P w K mg base N_limit ["what"] "limit" s_limit 0 cLimit := by
  intro f cdv A outer s H E ds M R Z hr hl ⟨e, hR⟩
  subst e
  obtain ⟨es, n, D1⟩ := D.kd
  obtain ⟨t, ht⟩ := D.hit
  have gb : ∀ {pos G M}, EX (Xd P w K mg base N_limit "limit" s_limit f cdv A outer s H E) (.Name "BOUNDS" pos) G M (.raw (.ref bd)) M := ex_glob (v := .ref bd) rfl D.mg rfl
  refine ss_cons (s1_if (k := false) (tx_w (wx_or (k := false) (k2 := false) ((tx_not (tx_val (ex_isi (isi_S rfl) B.isi B.str (ex_nm 0)))).is rfl) fun _ => wx_or1 (tx_cp (d1 := .str "bits") (d2 := .raw (.ref bd)) (ex_nm 0) gb ⟨_, op_notIn_kd D1, OpD.now fun F H x y Q sb r1 r2 q => ⟨"bits", _, r1, r2, ht, q _ rfl⟩⟩))) (fun z => absurd z (by simp)) fun _ => ss_nil ?_)
  exact ss_one (s1_ret (ex_at (d := .int 12000) (d1 := .raw (.ref bd)) (d2 := .str "bits") gb (ex_nm 0) ⟨_, ix_kdict, OpD.now fun F H x y Q sb r1 r2 q => ⟨bd, "bits", .int 12000, r1, r2, ⟨es, n, _, D1.at_, D1.lit, ht, t, rfl⟩, q _ rfl⟩⟩) (.of hR))
theorem b_fraction_or_none (B : Bl mg) (Dc : Df P w K mg base "_is_count" 1 cCount) (Dr : Df P w K mg base "_reduced" 1 cRed) : BodyOk P w K mg base N_fraction_or_none ["text"] "fraction_or_none" s_fraction_or_none 1 cFon := by
  intro f cdv A outer s H E ds M R Z hr hl ⟨z, e, hz, hR⟩
  subst e
  unfold frText at hR
  refine ss_cons (s1_set 1 sc_fraction_or_none.nd (ex_find (ex_nm 0) ex_str) ?_)
  refine ss_cons (s1_if (tx_cp (ex_nm 1) ex_int c_lt) (fun h => ?_) fun h => ss_nil ?_)
  · have h : Txt.find z slS < 0 := of_decide_eq_true h
    rw [if_pos h] at hR
    refine ss_one (s1_ret (ex_if (tx_val (ex_call Dc hr (ax_cons (ex_nm 0) (ax_cons ex_bl ax_nil)) ⟨z, true, rfl, hz, rfl, rfl⟩)) (fun hc => ?_) fun hc => ?_) (.of hR))
    · have ok := isCount_ok hc
      rw [if_pos hc]
      exact ex_tp (ax_cons (ex_intS B.int (ex_nm 0) ok.txt (by have := ok.len; omega)) (ax_cons ex_int ax_nil))
    · rw [if_neg (by rw [hc]; decide)]
      exact ex_non
  · have h : ¬ Txt.find z slS < 0 := of_decide_eq_false h
    rw [if_neg h] at hR
    refine ss_cons (s1_set 2 sc_fraction_or_none.nd (ex_slS (ex_nm 0) px_none (px_some (ex_nm 1)) hz) ?_)
    refine ss_cons (s1_set 3 sc_fraction_or_none.nd (ex_slS (ex_nm 0) (px_some (ex_bin (ex_nm 1) ex_int o_add)) px_none hz) ?_)
    have la := Nat.le_trans (cutS_len z none (some (Txt.find z slS))) hz
    have lb := Nat.le_trans (cutS_len z (some (Txt.find z slS + 1)) none) hz
    refine ss_cons (s1_if (tx_w (wx_or (tx_not (tx_val (ex_call Dc hr (ax_cons (ex_nm 2) (ax_cons ex_bl ax_nil)) ⟨_, true, rfl, la, rfl, rfl⟩))) fun _ => wx_or1 (tx_not (tx_val (ex_call Dc hr (ax_cons (ex_nm 3) (ax_cons ex_bl ax_nil)) ⟨_, false, rfl, lb, rfl, rfl⟩))))) (fun hc => ?_) fun hc => ss_nil ?_)
    · rw [if_neg (by
        intro h2
        rw [Bool.and_eq_true] at h2
        rw [h2.1, h2.2] at hc
        cases hc)] at hR
      exact ss_one (s1_ret ex_non (.of hR))
    · have h2 : isCount (cutS z none (some (Txt.find z slS))) true = true ∧ isCount (cutS z (some (Txt.find z slS + 1)) none) false = true := by simpa using hc
      rw [if_pos (by rw [h2.1, h2.2]; rfl)] at hR
      have oa := isCount_ok h2.1
      have ob := isCount_ok h2.2
      have pb := isCount_pos h2.2
      refine ss_one (s1_ret (ex_red2 (k := 0) Dr hr (ex_intS B.int (ex_nm 2) oa.txt (by have := oa.len; omega)) (ex_intS B.int (ex_nm 3) ob.txt (by have := ob.len; omega)) pb ?_) (.of hR))
      exact gcd_le_of (i := 240) pb (Nat.le_trans (Nat.le_of_lt ob.lt) (by decide)) (by decide)
theorem b_read_fraction (B : Bl mg) (C : Cls P K mg cl) (Df1 : Df P w K mg base "fraction_or_none" 2 cFon) : BodyOk P w K mg base N_read_fraction ["text"] "read_fraction" s_read_fraction 2 (cReadF cl) := by
  intro f cdv A outer s H E ds M R Z hr hl ⟨d, e, hk, hz, hR⟩
  subst e
  cases d with
  | str z =>
    refine ss_cons (s1_if (tx_not (tx_val (ex_isi (isi_S hk) B.isi B.str (ex_nm 0)))) (fun h => by cases h) fun h => ss_nil ?_)
    refine ss_cons (s1_set 1 sc_read_fraction.nd (ex_call Df1 hr (ax_cons (ex_nm 0) ax_nil) ⟨z, rfl, hz z rfl, rfl, rfl⟩) ?_)
    have hR : (match frText z with | none => Z (cl 1) (cks 1) (cfs 1 [.str z]) M | some p => R (pr p) M) := hR
    cases hf : frText z with
    | none =>
      rw [hf] at hR
      refine ss_cons (s1_if (tx_cp (ex_nm 1) ex_non (c_isN rfl)) (fun h => ?_) fun h => by cases h)
      exact ss_one (s1_raise rfl (C.xm 1 (by decide)) (roomD hr) (ax_cons (ex_nm 0) ax_nil) (show Kept _ (Z _ _ _) _ from Kept.of hR))
    | some p =>
      rw [hf] at hR
      refine ss_cons (s1_if (tx_cp (d1 := pr p) (ex_nm 1) ex_non (c_isN rfl)) (fun h => by cases h) fun h => ss_nil ?_)
      exact ss_one (s1_ret (d := pr p) (ex_nm 1) (.of hR))
  | _ =>
    refine ss_cons (s1_if (tx_not (tx_val (ex_isi (isi_S hk) B.isi B.str (ex_nm 0)))) (fun h => ?_) fun h => by cases h)
    exact ss_one (s1_raise rfl (C.xm 1 (by decide)) (roomD hr) (ax_cons (ex_nm 0) ax_nil) (show Kept _ (Z _ _ _) _ from Kept.of hR))
/-! fraction_text -/
def bitN (p : Nat × Nat) : Nat := max (Builtin.Int.intBits (p.1 : Int)) (Builtin.Int.intBits (p.2 : Int))
def wordN (p : Nat × Nat) : Str := if p.2 = 1 then toString (p.1 : Int) else ((Str.empty ++ toString (p.1 : Int)) ++ slS) ++ toString (p.2 : Int)
def cText (cl : Nat → Addr) : Ct := fun ds M R Z => ∃ d, ds = [d] ∧ okd d = true ∧ (isFr d = true → Nat.gcd (frN d).1 (frN d).2 < 2 ^ 9000) ∧
  orBad cl [d] Z M (if 12000 < bitN (red d) then Z (cl 17) (cks 17) (cfs 17 [.str "bits", .int (bitN (red d) : Int)]) M else R (.str (wordN (red d))) M)
theorem bits_lt {x m : Nat} (h : Builtin.Int.intBits (x : Int) ≤ m) : x < 2 ^ m := by
  have := PySem.intBits_le_iff.mp h
  simpa using this
theorem pow_big : 2 ^ 12000 < 10 ^ 4300 := by decide +kernel
theorem b_fraction_text (B : Bl mg) (C : Cls P K mg cl) (hdig : base.NoDigits) (Dc : Df P w K mg base "_check" 4 (cCheck cl)) (Dr : Df P w K mg base "_reduced" 1 cRed) (Dl : Df P w K mg base "limit" 1 cLimit) : BodyOk P w K mg base N_fraction_text ["value"] "fraction_text" s_fraction_text 4 (cText cl) := by
  intro f cdv A outer s H E ds M R Z hr hl ⟨d, e, hk, hs, hR⟩
  subst e
  refine ss_cons (s1_check Dc hr (ex_tp (ax_cons (ex_nm 0) ax_nil)) (by simpa using hk) (fun h => ?_) fun b h => .of (hR.bad h))
  have hf := badF1 h
  have hR := hR.ok h
  refine ss_cons (s1_red Dr rfl hr (ex_nm 0) hf (hs hf) (gxs_cons (gx_nm 1 sc_fraction_text.nd) (gxs_cons (gx_nm 2 sc_fraction_text.nd) gxs_nil)) ?_)
  refine ss_cons (s1_set 3 sc_fraction_text.nd (ex_max rfl B.max (ex_bits (ex_nm 1)) (ex_bits (ex_nm 2))) ?_)
  refine ss_cons (s1_if (tx_cp (ex_nm 3) (ex_call Dl hr (ax_cons ex_str ax_nil) ⟨rfl, rfl, rfl⟩) c_gt) (fun q => ?_) fun q => ss_nil ?_)
  · have q : (12000 : Int) < (bitN (red d) : Int) := of_decide_eq_true q
    rw [if_pos (by omega)] at hR
    exact ss_one (s1_raise rfl (C.xm 17 (by decide)) (roomD hr) (ax_cons ex_str (ax_cons (ex_nm 3) ax_nil)) (show Kept _ (Z _ _ _) _ from Kept.of hR))
  · have q : ¬ (12000 : Int) < (bitN (red d) : Int) := of_decide_eq_false q
    rw [if_neg (by omega)] at hR
    have q2 : bitN (red d) ≤ 12000 := by omega
    have b1 : (red d).1 < 10 ^ 4300 := Nat.lt_trans (bits_lt (Nat.le_trans (Nat.le_max_left _ _) q2)) pow_big
    have b2 : (red d).2 < 10 ^ 4300 := Nat.lt_trans (bits_lt (Nat.le_trans (Nat.le_max_right _ _) q2)) pow_big
    refine ss_one (s1_ret (d := .str (wordN (red d))) (ex_if (tx_cp (d2 := .int ((1 : Nat) : Int)) (ex_nm 2) ex_int c_eqN) (fun h1 => ?_) fun h1 => ?_) (.of hR))
    · have h1 : (red d).2 = 1 := of_decide_eq_true h1
      unfold wordN
      rw [if_pos h1]
      exact ex_strI rfl hdig B.str (ex_nm 1) (by simpa using b1)
    · have h1 : ¬ (red d).2 = 1 := of_decide_eq_false h1
      unfold wordN
      rw [if_neg h1]
      exact ex_fs3 rfl hdig (ex_nm 1) (ex_nm 2) (by simpa using b1) (by simpa using b2) (by decide)
end
end K1

set_option Elab.async false
set_option linter.all false
set_option maxRecDepth 100000
set_option maxHeartbeats 4000000
set_option exponentiation.threshold 100000
/-! K8: the law's arithmetic. -/
namespace K1
open PySem PySem.Spec PyProof.Rows L2 HM TX XN
section
variable {X : Cx} {G : List (Option Dt)} {M M1 : Mst} {T : Po} {d1 d2 d3 : Dt} {a b c : Expr} {x y u : Str} {px py pu pt pt2 pos : Pos} {kt k2 : Nat}
/-- x, y = a, b -/
theorem s1_par (i j : Nat) (hc : X.calm = true) (hN : X.N.Nodup) (ha : AX X [a, b] G M [d1, d2] M1) (h : T.nx ((G.set i (some d1)).set j (some d2)) M1) (hij : i ≠ j := by decide) (hi : X.N[i]? = some x := by rfl) (hj : X.N[j]? = some y := by rfl)
    (hx : X.env.scope.names.lookup x = some .local := by rfl) (hy : X.env.scope.names.lookup y = some .local := by rfl) (hw : swappedStores [.Tuple [.Name x px, .Name y py] kt pt] (.Tuple [a, b] k2 pt2) X.env = pure (some [x, y]) := by rfl)
    (hs : swapsWithSole [.Tuple [.Name x px, .Name y py] kt pt] (.Tuple [a, b] k2 pt2) pos.line X.env = pure false := by rfl) : S1 X (.Assign [.Tuple [.Name x px, .Name y py] kt pt] (.Tuple [a, b] k2 pt2) pos) G M T :=
  fun B σ H D hD hE ⟨F, g0, s0, r0, m0⟩ => w_s (ps_par hc hN hi hj hij hx hy pa_w hw hs) (ha.2 σ F H _ r0 s0 fun vs F1 H1 g1 s1 r1 => by
    obtain ⟨v, r, rfl, e1, v2, r2, rfl, e2, e3⟩ := r1
    have e3 : r2 = [] := e3
    subst e3
    exact ⟨v, v2, rfl, hD.nx _ M1 _ H1 h (Now.go g0 m0 ha.1 g1 s1 (((r0.mono g1.sub).set e1 i).set e2 j))⟩)
theorem s1_par3 (i j l : Nat) (hc : X.calm = true) (hN : X.N.Nodup) (ha : AX X [a, b, c] G M [d1, d2, d3] M1) (h : T.nx (((G.set i (some d1)).set j (some d2)).set l (some d3)) M1) (hij : i ≠ j := by decide) (hil : i ≠ l := by decide) (hjl : j ≠ l := by decide) (hi : X.N[i]? = some x := by rfl) (hj : X.N[j]? = some y := by rfl) (hl : X.N[l]? = some u := by rfl)
    (hx : X.env.scope.names.lookup x = some .local := by rfl) (hy : X.env.scope.names.lookup y = some .local := by rfl) (hu : X.env.scope.names.lookup u = some .local := by rfl) (hw : swappedStores [.Tuple [.Name x px, .Name y py, .Name u pu] kt pt] (.Tuple [a, b, c] k2 pt2) X.env = pure (some [x, y, u]) := by rfl)
    (hs : swapsWithSole [.Tuple [.Name x px, .Name y py, .Name u pu] kt pt] (.Tuple [a, b, c] k2 pt2) pos.line X.env = pure false := by rfl) : S1 X (.Assign [.Tuple [.Name x px, .Name y py, .Name u pu] kt pt] (.Tuple [a, b, c] k2 pt2) pos) G M T :=
  fun B σ H D hD hE ⟨F, g0, s0, r0, m0⟩ => w_s (ps_par3 hc hN hi hj hl hij hil hjl hx hy hu pa_w hw hs) (ha.2 σ F H _ r0 s0 fun vs F1 H1 g1 s1 r1 => by
    obtain ⟨v, r, rfl, e1, v2, r2, rfl, e2, v3, r3, rfl, e3, e4⟩ := r1
    have e4 : r3 = [] := e4
    subst e4
    exact ⟨v, v2, v3, rfl, hD.nx _ M1 _ H1 h (Now.go g0 m0 ha.1 g1 s1 ((((r0.mono g1.sub).set e1 i).set e2 j).set e3 l))⟩)
theorem o_modN {a b : Nat} (hb : 0 < b) : OpOk X .Mod (.int (a : Int)) (.int (b : Int)) (.int ((a % b : Nat) : Int)) := by
  rw [Int.natCast_emod]
  exact o_mod (by omega)
/-- p[0], p[1] -/
theorem ex_p0 {p : Nat × Nat} {kk} {pc ps : Pos} (h : EX X a G M (pr p) M) : EX X (.Subscript a (.Constant (.int 0) kk pc) ps) G M (.int (p.1 : Int)) M := ex_at h ex_int (i_tup (n := 0) rfl)
theorem ex_p1 {p : Nat × Nat} {kk} {pc ps : Pos} (h : EX X a G M (pr p) M) : EX X (.Subscript a (.Constant (.int 1) kk pc) ps) G M (.int (p.2 : Int)) M := ex_at h ex_int (i_tup (n := 1) rfl)
end
def cLow : Ct := fun ds M R _ => ∃ a b : Nat, ds = [.int (a : Int), .int (b : Int)] ∧ 0 < Nat.gcd a b ∧ Nat.gcd a b < 2 ^ 9000 ∧ R (pr (lowN a b)) M
def cPair2 (k : Nat) (f : (Nat × Nat) → (Nat × Nat) → Dt) : Ct := fun ds M R _ => ∃ p q : Nat × Nat, ds = [pr p, pr q] ∧ 0 < p.2 ∧ 0 < q.2 ∧ Sz k p ∧ Sz k q ∧ R (f p q) M
def cTotal : Ct := fun ds M R _ => ∃ l : List (Nat × Nat), ds = [.lst (l.map pr)] ∧ l.length ≤ 10 ∧ (∀ p ∈ l, 0 < p.2 ∧ Sz 200 p) ∧ R (pr (total l)) M
def cWord : Ct := fun ds M R _ => ∃ p : Nat × Nat, ds = [pr p] ∧ p.1 < 10 ^ 4300 ∧ p.2 < 10 ^ 4300 ∧ R (.str (wordN p)) M
def cFixed : Ct := fun ds M R _ => ∃ d, ds = [d] ∧ isFr d = true ∧ Nat.gcd (frN d).1 (frN d).2 < 2 ^ 9000 ∧ R (pr (red d)) M
def cLraised : Ct := fun ds M R _ => ∃ (p : Nat × Nat) (n : Nat), ds = [pr p, .int (n : Int)] ∧ Sz 200 p ∧ n ≤ 40 ∧ R (pr (p.1 ^ n, p.2 ^ n)) M
section
variable {P : Program} {w : World} {K : PySem.W.Frag} {mg : Str → Option Value} {base : Heap} {cl : Nat → Addr}
theorem b_Llow (B : Bl mg) : BodyOk P w K mg base N_Llow ["top", "bottom"] "_law_low" s_Llow 0 cLow := by
  intro f cdv A outer s H E ds M R Z hr hl ⟨a, b, e, h0, h9, hR⟩
  subst e
  refine ss_cons (s1_par 2 3 rfl sc_Llow.nd (ax_cons (ex_nm 0) (ax_cons (ex_nm 1) ax_nil)) ?_)
  refine ss_cons (s1_while (fun n G' M' => M' = M ∧ ∃ h : Nat, G' = [some (.int (a : Int)), some (.int (b : Int)), some (.int (h : Int)), some (.int (n : Int))] ∧ Nat.gcd h n = Nat.gcd a b) b ⟨rfl, a, rfl, rfl⟩ ?_ PassesOwn.leaving)
  rintro n G' M' ⟨rfl, h, rfl, hg⟩
  refine ⟨_, tx_cp (d2 := .int ((0 : Nat) : Int)) (ex_nm 3) ex_int c_gtN, fun q => ?_, fun q => ?_⟩
  · have q : 0 < n := of_decide_eq_true q
    refine ss_one (s1_par 2 3 rfl sc_Llow.nd (ax_cons (ex_nm 3) (ax_cons (ex_bin (ex_intI B.int (ex_nm 2)) (ex_nm 3) (o_modN q)) ax_nil)) ?_)
    refine ⟨h % n, Nat.mod_lt _ q, rfl, n, rfl, ?_⟩
    rw [← hg, Nat.gcd_comm n (h % n), ← Nat.gcd_rec, Nat.gcd_comm]
  · have q : ¬ 0 < n := of_decide_eq_false q
    have e : n = 0 := by omega
    subst e
    rw [Nat.gcd_zero_right] at hg
    subst hg
    exact ss_one (s1_ret (EE.is (ex_tp (ax_cons (ex_bin (ex_nm 0) (ex_nm 2) (o_divN h0 h9)) (ax_cons (ex_bin (ex_nm 1) (ex_nm 2) (o_divN h0 h9)) ax_nil))) rfl) (.of hR))
/-- _law_low(e, e2) -/
theorem ex_low {X : Cx} {e1 e2 : Expr} {G : List (Option Dt)} {M : Mst} {a b : Nat} {p1 p2 : Pos} {i : Nat} (Dl : Df X.prog X.w X.K X.mg X.base "_law_low" 1 cLow) (hr : Room i X.A) (ha : EX X e1 G M (.int (a : Int)) M) (hb : EX X e2 G M (.int (b : Int)) M) (h0 : 0 < Nat.gcd a b) (hs : Nat.gcd a b < 2 ^ 9000)
    (hi : 1 ≤ i := by decide) (hgl : Gl X "_law_low" := by rfl) (hs1 : starEach [e1, e2] X.env = (false, eval e1 X.env) :: starEach [e2] X.env := by rfl) (hs2 : starEach [e2] X.env = (false, eval e2 X.env) :: starEach [] X.env := by rfl) (hpl : (backTo p2 (starEach [e2] X.env)).any (·.1) = false := by rfl) :
    EX X (.Call (.Name "_law_low" p1) [e1, e2] [] p2) G M (pr (lowN a b)) M := ex_call Dl hr (ax_cons ha (ax_cons hb ax_nil hs2) hs1) ⟨a, b, rfl, h0, hs, rfl, rfl⟩ rfl hi hgl (by decide) hs1 hpl
theorem gpos {a b : Nat} (hb : 0 < b) : 0 < Nat.gcd a b := Nat.gcd_pos_of_pos_right a hb
theorem b_Ladded (Dl : Df P w K mg base "_law_low" 1 cLow) : BodyOk P w K mg base N_Ladded ["x", "y"] "_law_added" s_Ladded 1 (cPair2 4000 fun p q => pr (addN p q)) := by
  intro f cdv A outer s H E ds M R Z hr hl ⟨p, q, e, hp, hq, sp, sq, hR⟩
  subst e
  have p0 : 0 < p.2 * q.2 := Nat.mul_pos hp hq
  exact ss_one (s1_ret (ex_low Dl hr (ex_bin (ex_bin (ex_p0 (ex_nm 0)) (ex_p1 (ex_nm 1)) (o_mulN sp.1 sq.2 (by decide))) (ex_bin (ex_p0 (ex_nm 1)) (ex_p1 (ex_nm 0)) (o_mulN sq.1 sp.2 (by decide))) o_addN) (ex_bin (ex_p1 (ex_nm 0)) (ex_p1 (ex_nm 1)) (o_mulN sp.2 sq.2 (by decide))) (gpos p0) (gcd_le_of p0 (mulP sp.2 sq.2) (by decide))) (.of hR))
theorem b_Lby (Dl : Df P w K mg base "_law_low" 1 cLow) : BodyOk P w K mg base N_Lby ["x", "y"] "_law_by" s_Lby 1 (cPair2 4000 fun p q => pr (byN p q)) := by
  intro f cdv A outer s H E ds M R Z hr hl ⟨p, q, e, hp, hq, sp, sq, hR⟩
  subst e
  have p0 : 0 < p.2 * q.2 := Nat.mul_pos hp hq
  exact ss_one (s1_ret (ex_low Dl hr (ex_bin (ex_p0 (ex_nm 0)) (ex_p0 (ex_nm 1)) (o_mulN sp.1 sq.1 (by decide))) (ex_bin (ex_p1 (ex_nm 0)) (ex_p1 (ex_nm 1)) (o_mulN sp.2 sq.2 (by decide))) (gpos p0) (gcd_le_of p0 (mulP sp.2 sq.2) (by decide))) (.of hR))
theorem b_Lgap (B : Bl mg) (Dl : Df P w K mg base "_law_low" 1 cLow) : BodyOk P w K mg base N_Lgap ["x", "y"] "_law_gap" s_Lgap 1 (cPair2 4000 fun p q => pr (gapN p q)) := by
  intro f cdv A outer s H E ds M R Z hr hl ⟨p, q, e, hp, hq, sp, sq, hR⟩
  subst e
  have p0 : 0 < p.2 * q.2 := Nat.mul_pos hp hq
  exact ss_one (s1_ret (ex_low Dl hr (ex_abs B.abs (ex_bin (ex_bin (ex_p0 (ex_nm 0)) (ex_p1 (ex_nm 1)) (o_mulN sp.1 sq.2 (by decide))) (ex_bin (ex_p0 (ex_nm 1)) (ex_p1 (ex_nm 0)) (o_mulN sq.1 sp.2 (by decide))) o_sub)) (ex_bin (ex_p1 (ex_nm 0)) (ex_p1 (ex_nm 1)) (o_mulN sp.2 sq.2 (by decide))) (gpos p0) (gcd_le_of p0 (mulP sp.2 sq.2) (by decide))) (.of (by simpa [gapN] using hR)))
theorem b_Lless : BodyOk P w K mg base N_Lless ["x", "y"] "_law_less" s_Lless 0 (cPair2 4000 fun p q => .bl (decide (p.1 * q.2 < q.1 * p.2))) := by
  intro f cdv A outer s H E ds M R Z hr hl ⟨p, q, e, hp, hq, sp, sq, hR⟩
  subst e
  exact ss_one (s1_ret (ex_cp (ex_bin (ex_p0 (ex_nm 0)) (ex_p1 (ex_nm 1)) (o_mulN sp.1 sq.2 (by decide))) (ex_bin (ex_p0 (ex_nm 1)) (ex_p1 (ex_nm 0)) (o_mulN sq.1 sp.2 (by decide))) c_decLt) (.of hR))
theorem addN_sz {j k : Nat} {x y : Nat × Nat} (hx : Sz j x) (hy : Sz k y) : Sz (j + k + 1) (addN x y) := Sz.low ⟨addP (mulP hx.1 hy.2) (by rw [Nat.add_comm j k]; exact mulP hy.1 hx.2), Nat.le_trans (mulP hx.2 hy.2) (Nat.pow_le_pow_right (by decide) (Nat.le_succ _))⟩
theorem byN_sz {j k : Nat} {x y : Nat × Nat} (hx : Sz j x) (hy : Sz k y) : Sz (j + k) (byN x y) := Sz.low ⟨mulP hx.1 hy.1, mulP hx.2 hy.2⟩
theorem total_sz : ∀ (l : List (Nat × Nat)), (∀ p ∈ l, Sz 200 p) → ∀ (k : Nat) (x : Nat × Nat), Sz k x → Sz (k + 201 * l.length) (l.foldl addN x)
  | [], _, k, x, h => h
  | y :: l, hl, k, x, h => by
    have := total_sz l (fun z hz => hl z (List.mem_cons_of_mem _ hz)) _ _ (addN_sz h (hl y List.mem_cons_self))
    refine Sz.mono this ?_
    simp
    omega
theorem get_map {α β : Type} {l : List α} {f : α → β} {i : Nat} {d : β} (h : (l.map f)[i]? = some d) : ∃ a, l[i]? = some a ∧ d = f a := by
  rw [List.getElem?_map] at h
  cases e : l[i]? with
  | none => rw [e] at h; simp at h
  | some a =>
    rw [e] at h
    exact ⟨a, rfl, by simpa using h.symm⟩
theorem b_Ltotal (Da : Df P w K mg base "_law_added" 2 (cPair2 4000 fun p q => pr (addN p q))) : BodyOk P w K mg base N_Ltotal ["menu"] "_law_total" s_Ltotal 2 cTotal := by
  intro f cdv A outer s H E ds M R Z hr hl ⟨l, e, hlen, hp, hR⟩
  subst e
  refine ss_cons (s1_set 1 sc_Ltotal.nd (ex_tp (ax_cons ex_int (ax_cons ex_int ax_nil))) ?_)
  refine ss_cons (s1_for (fun i G' M' => M' = M ∧ ∃ o, G' = [some (.lst (l.map pr)), some (pr (total (l.take i))), o]) (ix_lst (ex_nm 0)) rfl ⟨rfl, none, rfl⟩ ?_ ?_ (fun i G' M' h => by rw [h.1]) PassesOwn.leaving)
  · rintro i d G' M' hd ⟨rfl, o, rfl⟩
    obtain ⟨p, hpi, rfl⟩ := get_map hd
    have hm := hp p (List.mem_of_getElem? hpi)
    have tr : Red (total (l.take i)) := total_red _ _ ⟨by decide, by decide⟩ fun y hy => (hp y (List.mem_of_mem_take hy)).1
    have ts := total_sz (l.take i) (fun y hy => (hp y (List.mem_of_mem_take hy)).2) 0 (0, 1) ⟨by decide, by decide⟩
    have hti : (l.take i).length ≤ 10 := by rw [List.length_take]; omega
    refine ⟨_, gx_nm 2 sc_Ltotal.nd, ?_⟩
    refine ss_one (s1_set 1 sc_Ltotal.nd (ex_call Da hr (ax_cons (ex_nm 1) (ax_cons (ex_nm 2) ax_nil)) ⟨_, p, rfl, tr.1, hm.1, Sz.mono ts (by omega), Sz.mono hm.2 (by decide), rfl, rfl⟩) ?_)
    refine ⟨rfl, some (pr p), ?_⟩
    rw [take_snoc hpi, total_snoc]
    rfl
  · rintro G' M' ⟨rfl, o, rfl⟩
    rw [List.length_map, List.take_length]
    exact ss_one (s1_ret (ex_nm 1) (.of hR))
theorem str_app (a b c : Str) : (a ++ b) ++ c = a ++ (b ++ c) := congrArg Str.mk Array.append_assoc
theorem str_e0 (a : Str) : Str.empty ++ a = a := congrArg Str.mk (by
  show #[] ++ a.cps = a.cps
  simp)
theorem str_0e (a : Str) : a ++ Str.empty = a := congrArg Str.mk (by
  show a.cps ++ #[] = a.cps
  simp)
theorem b_Lword (B : Bl mg) (hdig : base.NoDigits) : BodyOk P w K mg base N_Lword ["pair"] "_law_word" s_Lword 0 cWord := by
  intro f cdv A outer s H E ds M R Z hr hl ⟨p, e, h1, h2, hR⟩
  subst e
  have l1 := tInt_len (i := (p.1 : Int)) (by simpa using h1)
  have l2 := tInt_len (i := (p.2 : Int)) (by simpa using h2)
  have ea : ∀ x y : Str, (x ++ y).length = x.length + y.length := fun x y => Array.size_append
  have ls : (slS : Str).length = 1 := rfl
  unfold wordN at hR
  by_cases h : p.2 = 1
  · rw [if_pos h] at hR
    refine ss_one (s1_ret (EE.is (ex_bin (ex_strI rfl hdig B.str (ex_p0 (ex_nm 0)) (by simpa using h1)) (ex_if (tx_cp (d2 := .int ((1 : Nat) : Int)) (ex_p1 (ex_nm 0)) ex_int c_neI) (fun q => ?_) fun _ => ex_str) (o_catS ?_)) ?_) (.of hR))
    · rw [h] at q
      exact absurd q (by decide)
    · show _ + 0 ≤ _
      omega
    · exact congrArg Dt.str (str_0e _)
  · rw [if_neg h] at hR
    refine ss_one (s1_ret (EE.is (ex_bin (ex_strI rfl hdig B.str (ex_p0 (ex_nm 0)) (by simpa using h1)) (ex_if (tx_cp (d2 := .int ((1 : Nat) : Int)) (ex_p1 (ex_nm 0)) ex_int c_neI) (fun q => ex_bin ex_str (ex_strI rfl hdig B.str (ex_p1 (ex_nm 0)) (by simpa using h2)) (o_catS (s := slS) ?_)) fun q => ?_) (o_catS ?_)) ?_) (.of hR))
    · rw [ls]
      omega
    · have : (p.2 : Int) = 1 := by simpa using q
      omega
    · rw [ea, ls]
      omega
    · rw [str_e0, str_app]
theorem b_Lnumber (B : Bl mg) : BodyOk P w K mg base N_Lnumber ["item"] "_law_number" s_Lnumber 0 cNum := by
  intro f cdv A outer s H E ds M R Z hr hl ⟨d, e, hk, hR⟩
  subst e
  exact ss_one (s1_ret (EE.is (ex_and (ex_isi (isi_I hk) B.isi B.int (ex_nm 0)) (fun _ => ex_one (ex_not (ex_isi (isi_B hk) B.isi B.bool (ex_nm 0))))) (congrArg Dt.bl (isNum_eq d))) (.of hR))
theorem b_Lfixed (Dn : Df P w K mg base "_law_number" 1 cNum) (Dl : Df P w K mg base "_law_low" 1 cLow) : BodyOk P w K mg base N_Lfixed ["item"] "_law_fixed" s_Lfixed 1 cFixed := by
  intro f cdv A outer s H E ds M R Z hr hl ⟨d, e, hf, hg, hR⟩
  subst e
  refine ss_one (s1_ret (d := pr (red d)) (ex_if (tx_val (ex_call Dn hr (ax_cons (ex_nm 0) ax_nil) ⟨_, rfl, okd.kn (isFr.okd hf), rfl, rfl⟩)) (fun q => ?_) fun q => ?_) (.of hR))
  · rcases isFr_cases hf with ⟨n, rfl⟩ | ⟨a, b, rfl, hb⟩
    · refine EE.is (ex_tp (ax_cons (ex_nm 0) (ax_cons ex_int ax_nil))) ?_
      simp [pr, red, frN, lowN_one]
    · cases q
  · rcases isFr_cases hf with ⟨n, rfl⟩ | ⟨a, b, rfl, hb⟩
    · cases q
    · have hg : Nat.gcd a b < 2 ^ 9000 := by simpa [frN] using hg
      refine EE.is (ex_low Dl hr (ex_p0 (p := (a, b)) (ex_nm 0)) (ex_p1 (p := (a, b)) (ex_nm 0)) (gpos hb) hg) ?_
      simp [red, frN]
theorem b_Lraised (B : Bl mg) : BodyOk P w K mg base N_Lraised ["x", "size"] "_law_raised" s_Lraised 0 cLraised := by
  intro f cdv A outer s H E ds M R Z hr hl ⟨p, n, e, sp, hn, hR⟩
  subst e
  refine ss_cons (s1_set 2 sc_Lraised.nd (ex_tp (ax_cons ex_int (ax_cons ex_int ax_nil))) ?_)
  refine ss_cons (s1_for (fun i G' M' => M' = M ∧ i ≤ n ∧ ∃ o, G' = [some (pr p), some (.int (n : Int)), some (pr (p.1 ^ i, p.2 ^ i)), o]) (ix_range B.range (ax_cons (ex_nm 1) ax_nil) (by omega)) rfl ⟨rfl, Nat.zero_le _, none, rfl⟩ ?_ ?_ (fun i G' M' h => by rw [h.1]) PassesOwn.leaving)
  · rintro i d G' M' hd ⟨rfl, hi, o, rfl⟩
    have hlt : i < n := by
      have := (List.getElem?_eq_some_iff.mp hd).1
      rw [rng_len] at this
      simpa using this
    refine ⟨_, gx_nm 3 sc_Lraised.nd, ?_⟩
    refine ss_one (s1_set 2 sc_Lraised.nd (ex_tp (ax_cons (ex_bin (ex_p0 (ex_nm 2)) (ex_p0 (ex_nm 0)) (o_mulN (i := 60000) (j := 200) (pow_le40 (n := i) sp.1 (by omega)) sp.1 (by decide))) (ax_cons (ex_bin (ex_p1 (ex_nm 2)) (ex_p1 (ex_nm 0)) (o_mulN (i := 60000) (j := 200) (pow_le40 (n := i) sp.2 (by omega)) sp.2 (by decide))) ax_nil))) ?_)
    exact ⟨rfl, hlt, _, by rw [Nat.pow_succ, Nat.pow_succ]; rfl⟩
  · rintro G' M' ⟨rfl, hi, o, rfl⟩
    rw [rng_len]
    exact ss_one (s1_ret (ex_nm 2) (.of hR))
end
end K1

set_option Elab.async false
set_option linter.all false
set_option maxRecDepth 100000
set_option maxHeartbeats 4000000
set_option exponentiation.threshold 100000
/-! K9: the law's texts. -/
namespace K1
open PySem PySem.Spec PyProof.Rows L2 HM TX XN
def cDig : Ct := fun ds M R _ => ∃ z : Str, ds = [.str z, .int 60] ∧ z.length ≤ 100000 ∧ R (.bl (isCount z true)) M
def readL (parts : List Str) : Option (Nat × Nat) := match parts with
  | [a] => if isCount a true then some (lowN (numV a) 1) else none
  | [a, b] => if isCount a true && isCount b true && !decide (b = "0") then some (lowN (numV a) (numV b)) else none
  | _ => none
def cLread : Ct := fun ds M R _ => ∃ z : Str, ds = [.str z] ∧ z.length ≤ 100000 ∧ R (optD (frText z)) M
/-! ### plain: split and find -/
theorem at_iff {z : Str} {k : Nat} : StrLaws.At z slS z.length k ↔ z.cps.toList[k]? = some 47 := by
  constructor
  · intro h
    have := StrLaws.at_take h
    have h2 : (z.cps.toList.drop k).take 1 = [47] := this
    have h3 := congrArg (fun l : List Nat => l[0]?) h2
    simpa using h3
  · intro h
    refine StrLaws.take_at (by decide) ?_
    show (z.cps.toList.drop k).take 1 = [47]
    have hlt := (List.getElem?_eq_some_iff.mp h).1
    rw [List.drop_eq_getElem_cons hlt]
    have e := (List.getElem?_eq_some_iff.mp h).2
    rw [e]
    rfl
theorem isCount_no {z : Str} {k : Bool} (h : 47 ∈ z.cps.toList) : isCount z k = false := by
  cases hc : isCount z k with
  | false => rfl
  | true =>
    have := (isCount_ok hc).ad 47 h
    omega
theorem isCount_false (b : Str) : isCount b false = (isCount b true && !decide (b = "0")) := by
  unfold isCount
  by_cases h : b = "0"
  · rw [if_pos h, if_pos h, decide_eq_true h]; rfl
  · rw [if_neg h, if_neg h, decide_eq_false h]; simp
theorem tl_app (a b : Str) : (a ++ b).cps.toList = a.cps.toList ++ b.cps.toList := Array.toList_append
theorem str_ext {a b : Str} (h : a.cps.toList = b.cps.toList) : a = b := by
  cases a; cases b
  exact congrArg Str.mk (Array.toList_inj.mp h)
theorem find_one {z : Str} (h : 47 ∉ z.cps.toList) : Txt.find z slS < 0 := by
  rcases PyProof.Rows.find_whole z slS with ⟨h1, _⟩ | ⟨i, _, h2, _⟩
  · omega
  · exact absurd (List.mem_of_getElem? (at_iff.mp h2)) h
theorem find_two {a r : Str} (h : 47 ∉ a.cps.toList) : Txt.find (a ++ slS ++ r) slS = (a.cps.toList.length : Int) := by
  have e : (a ++ slS ++ r).cps.toList = a.cps.toList ++ 47 :: r.cps.toList := by
    rw [tl_app, tl_app, List.append_assoc]
    rfl
  have at0 : StrLaws.At (a ++ slS ++ r) slS (a ++ slS ++ r).length a.cps.toList.length := at_iff.mpr (by rw [e]; simp)
  rcases PyProof.Rows.find_whole (a ++ slS ++ r) slS with ⟨_, h2⟩ | ⟨i, h1, h2, h3⟩
  · exact absurd at0 (h2 _)
  · rw [h1]
    have h4 := at_iff.mp h2
    rw [e] at h4
    have : ¬ i < a.cps.toList.length := fun hlt => by
      rw [List.getElem?_append_left hlt] at h4
      exact h (List.mem_of_getElem? h4)
    have : ¬ a.cps.toList.length < i := fun hlt => h3 _ hlt at0
    omega
theorem cut_a {a r : Str} : cutS (a ++ slS ++ r) none (some (a.cps.toList.length : Int)) = a := by
  have e : (a ++ slS ++ r).cps.toList = a.cps.toList ++ 47 :: r.cps.toList := by
    rw [tl_app, tl_app, List.append_assoc]
    rfl
  have el : (a ++ slS ++ r).length = a.cps.toList.length + 1 + r.cps.toList.length := by
    have : (a ++ slS ++ r).length = (a ++ slS ++ r).cps.toList.length := by simp [Str.length]
    rw [this, e]
    simp
    omega
  apply str_ext
  unfold cutS
  rw [HT.sIx_none, HT.sIx_nat, el, e]
  show List.take (min a.cps.toList.length _ - 0) (List.drop 0 _) = _
  rw [List.drop_zero, Nat.min_eq_left (by omega), Nat.sub_zero, List.take_left]
theorem cut_r {a r : Str} : cutS (a ++ slS ++ r) (some ((a.cps.toList.length : Int) + 1)) none = r := by
  have e : (a ++ slS ++ r).cps.toList = (a.cps.toList ++ [47]) ++ r.cps.toList := by
    rw [tl_app, tl_app]
    rfl
  have el : (a ++ slS ++ r).length = a.cps.toList.length + 1 + r.cps.toList.length := by
    have : (a ++ slS ++ r).length = (a ++ slS ++ r).cps.toList.length := by simp [Str.length]
    rw [this, e]
    simp
    omega
  apply str_ext
  unfold cutS
  have c1 : ((a.cps.toList.length : Int) + 1) = ((a.cps.toList.length + 1 : Nat) : Int) := by omega
  rw [HT.sIx_none, c1, HT.sIx_nat, el, e, Nat.min_eq_left (by omega)]
  show List.take _ (List.drop _ _) = _
  have hl : (a.cps.toList ++ [47]).length = a.cps.toList.length + 1 := by simp
  rw [← hl, List.drop_left]
  exact List.take_of_length_le (by omega)
theorem read_fr (z : Str) : readL (Txt.split z slS) = frText z := by
  have hj := StrLaws.join_split z slS
  have hf : ∀ p ∈ Txt.split z slS, 47 ∉ p.cps.toList := StrLaws.split_free z 47
  have hp := PyProof.Rows.split_pos z slS
  generalize Txt.split z slS = parts at hj hf hp
  match parts, hj, hf, hp with
  | [a], hj, hf, _ =>
    have hj : a = z := hj
    subst hj
    have h1 := find_one (hf a List.mem_cons_self)
    unfold frText readL
    rw [if_pos h1]
    simp [lowN_one]
  | [a, b], hj, hf, _ =>
    have hj : a ++ slS ++ b = z := hj
    subst hj
    have h1 := find_two (r := b) (hf a List.mem_cons_self)
    unfold frText readL
    rw [h1, if_neg (by omega), cut_a, cut_r, isCount_false b]
    simp [Bool.and_assoc]
  | a :: b :: c :: r, hj, hf, _ =>
    have hj : a ++ slS ++ (b ++ slS ++ Str.join slS (c :: r)) = z := hj
    subst hj
    have h1 := find_two (r := b ++ slS ++ Str.join slS (c :: r)) (hf a List.mem_cons_self)
    unfold frText readL
    rw [h1, if_neg (by omega), cut_a, cut_r, isCount_no (z := b ++ slS ++ Str.join slS (c :: r)) (by
      rw [tl_app, tl_app]
      simp only [List.mem_append]
      exact .inl (.inr (by decide)))]
    simp
section
variable {P : Program} {w : World} {K : PySem.W.Frag} {mg : Str → Option Value} {base : Heap} {cl : Nat → Addr}
theorem b_Lis_fraction (B : Bl mg) (D : Df P w K mg base "_law_number" 1 cNum) : BodyOk P w K mg base N_Lis_fraction ["item"] "_law_is_fraction" s_Lis_fraction 1 cIsFr := by
  intro f cdv A outer s H E ds M R Z hr hl ⟨d, e, hk, hkk, hR⟩
  subst e
  refine ss_cons (s1_if (tx_val (ex_call D hr (ax_cons (ex_nm 0) ax_nil) ⟨d, rfl, hk, rfl, rfl⟩)) (fun h => ?_) fun h => ss_nil ?_)
  · cases d with
    | int i => exact ss_one (s1_ret (ex_cp (ex_nm 0) ex_int c_ge) (.of hR))
    | _ => cases h
  · have no : ∀ d : Dt, d.kn = true → isNum d = false → isT d = false → isFr d = false := fun d _ h1 h2 => by cases d <;> first | rfl | (cases h1; done) | (cases h2; done)
    cases hT : isT d with
    | false =>
      refine ss_cons (s1_if (k := true || false) (tx_w (wx_or (tx_not ((tx_val (ex_isi (isi_T hk) B.isi B.tuple (ex_nm 0))).is hT)) fun h2 => absurd h2 (by simp))) (fun _ => ss_one (s1_ret (ex_bl.is (congrArg Dt.bl (no d hk h hT).symm)) (.of hR))) fun h2 => absurd h2 (by simp))
    | true =>
      cases d with
      | tup l =>
        by_cases hl2 : l.length = 2
        · match l, hl2, hkk with
          | [a, b], _, hkk =>
            have hab := hkk [a, b] rfl
            have ha : a.kn = true := by simp at hab; exact hab.1
            have hb : b.kn = true := by simp at hab; exact hab.2
            refine ss_cons (s1_if (k := !(isNum a && isNum b)) (M1 := M) ?_ (fun q => ?_) fun q => ss_nil ?_)
            · refine ET.is (tx_w (wx_or (k := false) ((tx_not (tx_val (ex_isi (isi_T rfl) B.isi B.tuple (ex_nm 0)))).is rfl) fun _ => wx_or (k := false) ((tx_cp (ex_len len_tup B.len (ex_nm 0)) ex_int c_neI).is rfl) fun _ => wx_or (tx_not (tx_val (ex_call D hr (ax_cons (ex_at (ex_nm 0) ex_int (i_tup (n := 0) rfl)) ax_nil) ⟨a, rfl, ha, rfl, rfl⟩))) fun _ => wx_or1 (tx_not (tx_val (ex_call D hr (ax_cons (ex_at (ex_nm 0) ex_int (i_tup (n := 1) rfl)) ax_nil) ⟨b, rfl, hb, rfl, rfl⟩))))) ?_
              cases isNum a <;> cases isNum b <;> rfl
            · have q : isNum a = false ∨ isNum b = false := by
                cases h1 : isNum a with
                | false => exact .inl rfl
                | true =>
                  cases h2 : isNum b with
                  | false => exact .inr rfl
                  | true => rw [h1, h2] at q; cases q
              exact ss_one (s1_ret (ex_bl.is (congrArg Dt.bl (isFr_num q).symm)) (.of hR))
            · have q : isNum a = true ∧ isNum b = true := by simpa using q
              obtain ⟨x, rfl⟩ := isNum_int q.1
              obtain ⟨y, rfl⟩ := isNum_int q.2
              exact ss_one (s1_ret (EE.is (ex_and (ex_cp (ex_at (ex_nm 0) ex_int (i_tup (n := 0) rfl)) ex_int c_ge) fun _ => ex_one (ex_cp (ex_at (ex_nm 0) ex_int (i_tup (n := 1) rfl)) ex_int c_ge)) rfl) (.of hR))
        · refine ss_cons (s1_if (k := true) (tx_w (wx_or (k := false) (k2 := true) ((tx_not (tx_val (ex_isi (isi_T rfl) B.isi B.tuple (ex_nm 0)))).is rfl) fun _ => wx_or (k := true) (k2 := true) ((tx_cp (ex_len len_tup B.len (ex_nm 0)) ex_int c_neI).is (by simp; omega)) fun z => absurd z (by simp))) (fun _ => ?_) fun z => absurd z (by simp))
          exact ss_one (s1_ret (ex_bl.is (congrArg Dt.bl (isFr_len hl2).symm)) (.of hR))
      | _ => cases hT
theorem c_notinS' {X : Cx} {z : Str} {c : Nat} : CmpOk X .NotIn (.str ⟨#[c]⟩) (.str z) (.bl (!decide (c ∈ z.cps.toList))) := ⟨_, op_notIn_sign, OpD.now fun F H x y Q _ r1 r2 q => ⟨c, z, r1, r2, q _ rfl⟩⟩
theorem b_Ldigits (B : Bl mg) : BodyOk P w K mg base N_Ldigits ["word", "most"] "_law_digits" s_Ldigits 0 cDig := by
  intro f cdv A outer s H E ds M R Z hr hl ⟨z, e, hz, hR⟩
  subst e
  have hu : A.units + 64 < cLine := by
    have := hr.un
    have h2 : (Xd P w K mg base N_Ldigits "_law_digits" s_Ldigits f cdv A outer s H E).A.units = A.units + 3 := rfl
    omega
  cases hcs : z.cps.toList with
  | nil =>
    have h0 := str_nil hcs
    refine ss_cons (s1_if (k := true) (tx_w (wx_or (k2 := true) ((tx_cp (ex_nm 0) ex_str c_eqS).is (decide_eq_true h0)) fun z => absurd z (by simp))) (fun _ => ss_one (s1_ret (ex_bl.is ?_) (.of hR))) fun z => absurd z (by simp))
    rw [h0]
    rfl
  | cons c r =>
    have hne : ¬ z = "" := fun e => by rw [e] at hcs; cases hcs
    refine ss_cons (s1_if (k := decide (60 < z.length) || !dgs z) (M1 := M) ?_ (fun q => ?_) fun q => ss_nil ?_)
    · refine ET.is (tx_w (wx_or ((tx_cp (ex_nm 0) ex_str c_eqS).is (decide_eq_false hne)) fun _ => wx_or ((tx_cp (ex_len (len_str hz) B.len (ex_nm 0)) (ex_nm 1) c_gt).is (k2 := decide (60 < z.length)) ?_) fun _ => wx_or1 (tx_cp (d1 := .lst (((chs z).filter fun d => match d with | .str y => !decide (y.cps.toList.getD 0 0 ∈ dgS.cps.toList) | d => true).map id)) (ex_lcFil 2 id (fun d => match d with | .str y => !decide (y.cps.toList.getD 0 0 ∈ dgS.cps.toList) | d => true) rfl sc_Ldigits.nd (ix_chs (ex_nm 0)) (by exact (show BlkOk N_Ldigits (defScope s_Ldigits) _ [("c", 2)] from ⟨rfl, by decide +kernel, by decide +kernel, by decide +kernel, by decide +kernel⟩)) (by rw [chs_len]; exact hz) (fun d hd s H C cl fp => ?_) fun d hd s H C cl fp => ex_nm 2) (ex_lst ax_nil) (c_neNil (by show A.units + 3 < _; have := hr.un; have h2 : (Xd P w K mg base N_Ldigits "_law_digits" s_Ldigits f cdv A outer s H E).A.units = A.units + 3 := rfl; omega))))) ?_
      · exact decide_eq_decide.mpr (by omega)
      · obtain ⟨c, hc, rfl⟩ := List.mem_map.mp hd
        exact tx_cp (ex_nm 2) ex_str c_notinS'
      · simp only [Bool.false_or, List.map_id]
        congr 1
        unfold dgs chs
        rw [List.filter_map]
        generalize z.cps.toList = l
        induction l with
        | nil => rfl
        | cons a l ih =>
          simp only [List.filter_cons, List.all_cons, Function.comp_apply]
          by_cases ha : a ∈ dgS.cps.toList
          · simp only [List.getD_cons_zero, decide_eq_true ha]
            simpa using ih
          · simp only [List.getD_cons_zero, decide_eq_false ha]
            simp
    · refine ss_one (s1_ret (ex_bl.is ?_) (.of hR))
      congr 1
      unfold isCount
      have hn0 : ¬ z = "0" := fun e => by
        subst e
        have : (decide (60 < (Str.ofString "0").length) || !dgs "0") = false := by decide
        rw [this] at q
        cases q
      rw [if_neg hn0, hcs]
      show false = if _ then _ else _
      rcases Bool.or_eq_true_iff.mp q with q | q
      · rw [q]; rfl
      · split
        · rfl
        · have : dgs z = false := by simpa using q
          exact this.symm
    · have q : ¬ 60 < z.length ∧ dgs z = true := by simpa using q
      refine ss_one (s1_ret (EE.is (ex_or (ex_cp (ex_nm 0) ex_str c_eqS) fun _ => ex_one (ex_cp (ex_at (ex_nm 0) ex_int (i_str (n := 0) (by rw [hcs]; rfl) hz)) ex_str c_neS)) ?_) (.of hR))
      congr 1
      unfold isCount
      by_cases h0 : z = "0"
      · rw [if_pos h0, decide_eq_true h0]; rfl
      · rw [if_neg h0, decide_eq_false h0, hcs]
        show (false || !decide _) = if _ then _ else _
        rw [one_str, decide_eq_false q.1, Bool.false_or, Bool.false_or, q.2]
        cases decide (c = 48) <;> rfl
end
end K1

set_option Elab.async false
set_option linter.all false
set_option maxRecDepth 100000
set_option maxHeartbeats 4000000
set_option exponentiation.threshold 100000
/-! K10: _law_read; the box, drawing. -/
namespace K1
open PySem PySem.Spec PyProof.Rows L2 HM TX XN
/-! ### the box -/
structure Bx where
  its : List Int
  i : Nat
  cur : Int
  mix : Int
  n : Int
  left : Int
def Bx.cells (b : Bx) : List Dt := [.lst (b.its.map Dt.int), .int (b.i : Int), .int b.cur, .int b.mix, .int b.n, .int b.left]
structure BxOk (b : Bx) : Prop where
  c : 0 ≤ b.cur
  m0 : 0 ≤ b.mix
  m1 : b.mix < 2147483579
def mixOne (b : Bx) (item : Int) : Int := (b.mix * 69061 + item % 2147483587 * 30011 + 211) % 2147483579
def take1 (b : Bx) : Bx := if b.cur = 0 then match b.its[b.i]? with
    | some item => if 10 ^ 18 ≤ item then { b with i := b.i + 1, cur := item, left := 60 } else { b with i := b.i + 1, mix := mixOne b item }
    | none => b
  else b
def mixTwo (b : Bx) : Int := (b.mix ^ 3 + b.n * 1299709 + 60037) % 2147483579
def give (b : Bx) (size : Int) : Int × Bx := if 0 < b.cur then (b.cur % size, { b with left := b.left - 1, cur := if 0 < b.left - 1 then b.cur / size else 0 })
  else ((mixTwo b / 97 + mixTwo b % 7907 * 71) % size, { b with mix := mixTwo b })
def draw (b : Bx) (size : Int) : Int × Bx := give (take1 { b with n := b.n + 1 }) size
theorem take1_ok {b : Bx} (h : BxOk b) : BxOk (take1 b) := by
  unfold take1
  split
  · split
    · rename_i item hit
      split
      · rename_i h18
        exact ⟨by show (0 : Int) ≤ item; omega, h.m0, h.m1⟩
      · exact ⟨h.c, Int.emod_nonneg _ (by decide), Int.emod_lt_of_pos _ (by decide)⟩
    · exact h
  · exact h
theorem take1_n (b : Bx) : (take1 b).n = b.n := by
  unfold take1
  split
  · split
    · split <;> rfl
    · rfl
  · rfl
theorem give_ok {b : Bx} {size : Int} (h : BxOk b) (hs : 0 < size) : BxOk (give b size).2 ∧ 0 ≤ (give b size).1 ∧ (give b size).1 < size ∧ (give b size).2.n = b.n := by
  unfold give
  split
  · refine ⟨⟨?_, h.m0, h.m1⟩, Int.emod_nonneg _ (by omega), Int.emod_lt_of_pos _ hs, rfl⟩
    show 0 ≤ (if 0 < b.left - 1 then b.cur / size else 0)
    split
    · exact Int.ediv_nonneg h.c (by omega)
    · exact Int.le_refl _
  · exact ⟨⟨h.c, Int.emod_nonneg _ (by decide), Int.emod_lt_of_pos _ (by decide)⟩, Int.emod_nonneg _ (by omega), Int.emod_lt_of_pos _ hs, rfl⟩
/-- a box of at most c draws -/
structure Bd (k : Int) (b : Bx) : Prop extends BxOk b where
  n0 : 0 ≤ b.n
  n1 : b.n ≤ k
theorem draw_ok {k : Int} {b : Bx} {size : Int} (h : Bd k b) (hs : 0 < size) : Bd (k + 1) (draw b size).2 ∧ 0 ≤ (draw b size).1 ∧ (draw b size).1 < size := by
  have h1 : BxOk { b with n := b.n + 1 } := ⟨h.c, h.m0, h.m1⟩
  have h2 := give_ok (size := size) (take1_ok h1) hs
  have hn : (draw b size).2.n = b.n + 1 := h2.2.2.2.trans (take1_n _)
  exact ⟨⟨h2.1, by rw [hn]; have := h.n0; omega, by rw [hn]; have := h.n1; omega⟩, h2.2.1, h2.2.2.1⟩
theorem Bd.mono {j k : Int} {b : Bx} (h : Bd j b) (hk : j ≤ k) : Bd k b := ⟨h.toBxOk, h.n0, Int.le_trans h.n1 hk⟩
def cDraw : Ct := fun ds M R _ => ∃ (p : Addr) (b : Bx) (size : Int) (M0 : Mst), ds = [.raw (.ref p), .int size] ∧ M = (p, .l b.cells) :: M0 ∧ Bd 1000000 b ∧ 0 < size ∧ size < 2 ^ 8000 ∧ R (.int (draw b size).1) ((p, .l (draw b size).2.cells) :: M0)
section
variable {P : Program} {w : World} {K : PySem.W.Frag} {mg : Str → Option Value} {base : Heap} {cl : Nat → Addr}
theorem b_Lread (B : Bl mg) (Dd : Df P w K mg base "_law_digits" 1 cDig) (Dl : Df P w K mg base "_law_low" 1 cLow) : BodyOk P w K mg base N_Lread ["word"] "_law_read" s_Lread 1 cLread := by
  intro f cdv A outer s H E ds M R Z hr hl ⟨z, e, hz, hR⟩
  subst e
  have hu : (Xd P w K mg base N_Lread "_law_read" s_Lread f cdv A outer s H E).A.units < cLine := by have := hr.un; omega
  obtain ⟨parts, hparts⟩ : ∃ parts, Txt.split z slS = parts := ⟨_, rfl⟩
  have hsh : ∀ a ∈ parts, a.length ≤ 100000 := fun a ha => Nat.le_trans (PyProof.Rows.part_short (x := z) (y := slS) (by rw [hparts]; exact ha)) hz
  have hpos : 1 ≤ parts.length := by rw [← hparts]; exact PyProof.Rows.split_pos z slS
  have hlen : parts.length ≤ 100002 := by rw [← hparts]; exact Nat.le_trans (PyProof.Rows.split_le z slS) (by omega)
  rw [← read_fr, hparts] at hR
  refine ss_cons (s1_set 1 sc_Lread.nd (EE.is (ex_split (y := slS) (ex_nm 0) ex_str (by decide) hz) (by rw [hparts])) ?_)
  have hno : parts.length > 2 → SS (Xd P w K mg base N_Lread "_law_read" s_Lread f cdv A outer s H E) ((defBody s_Lread).drop 1) [some (.str z), some (.lst (parts.map Dt.str)), none] M (PoF M R Z) := fun h => by
    refine ss_cons (s1_if (k := true) (tx_w (wx_or (k := true) (k2 := true) ((tx_cp (ex_len len_lst B.len (ex_nm 1)) ex_int c_gt).is (by simp; omega)) fun z => absurd z (by simp))) (fun _ => ?_) fun z => absurd z (by simp))
    refine ss_one (s1_ret ex_non (.of ?_))
    have : readL parts = none := by
      match parts, h with
      | _ :: _ :: _ :: _, _ => rfl
    rw [this] at hR
    exact hR
  by_cases h2 : parts.length > 2
  · exact hno h2
  have fil : ∀ {pos1 pos2 : Pos}, (parts.length ≤ 2) → TX (Xd P w K mg base N_Lread "_law_read" s_Lread f cdv A outer s H E) (match (defBody s_Lread).getD 1 (.Pass default) with | .If (.BoolOp _ [_, c, _] _) _ _ _ => c | _ => .Constant .none 0 default) [some (.str z), some (.lst (parts.map Dt.str)), none] M (!(parts.all fun a => isCount a true)) M := fun {pos1 pos2} h3 => by
    refine ET.is (tx_cp (d1 := .lst (((parts.map Dt.str).filter fun d => match d with | .str y => !isCount y true | d => true).map id)) (ex_lcFil 2 id (fun d => match d with | .str y => !isCount y true | d => true) rfl sc_Lread.nd (ix_lst (ex_nm 1)) (by exact (show BlkOk N_Lread (defScope s_Lread) _ [("part", 2)] from ⟨rfl, by decide +kernel, by decide +kernel, by decide +kernel, by decide +kernel⟩)) (by rw [List.length_map]; omega) (fun d hd s H C cl fp => ?_) fun d hd s H C cl fp => ex_nm 2) (ex_lst ax_nil) (c_neNil hu)) ?_
    · obtain ⟨a, ha, rfl⟩ := List.mem_map.mp hd
      exact tx_not (tx_val (ex_call Dd hr (ax_cons (ex_nm 2) (ax_cons ex_int ax_nil)) ⟨a, rfl, hsh a ha, rfl, rfl⟩))
    · rw [List.map_id, List.filter_map]
      clear hR hno hparts hsh hpos hlen h2 h3
      induction parts with
      | nil => rfl
      | cons a l ih =>
        simp only [List.filter_cons, List.all_cons, Function.comp_apply]
        by_cases h : isCount a true = true
        · simpa [h] using ih
        · simp [h]
  have one : ∀ a, parts = [a] → SS (Xd P w K mg base N_Lread "_law_read" s_Lread f cdv A outer s H E) ((defBody s_Lread).drop 1) [some (.str z), some (.lst (parts.map Dt.str)), none] M (PoF M R Z) := fun a e => by
    refine ss_cons (s1_if (k := !isCount a true) (M1 := M) ?_ (fun q => ?_) fun q => ss_nil ?_)
    · refine ET.is (tx_w (wx_or (k := false) ((tx_cp (ex_len len_lst B.len (ex_nm 1)) ex_int c_gt).is (by rw [e]; rfl)) fun _ => wx_or (fil (pos1 := default) (pos2 := default) (by omega)) fun _ => wx_or1 (tx_w (wx_and (k := false) (k2 := false) ((tx_cp (ex_len len_lst B.len (ex_nm 1)) ex_int c_eqI).is (by rw [e]; rfl)) fun z => absurd z (by simp))))) ?_
      rw [e]
      simp
    · have q : isCount a true = false := by simpa using q
      rw [e] at hR
      have hR : R (optD (if isCount a true = true then some (lowN (numV a) 1) else none)) M := hR
      rw [if_neg (by rw [q]; decide)] at hR
      exact ss_one (s1_ret ex_non (.of hR))
    · have q : isCount a true = true := by simpa using q
      have ok := isCount_ok q
      subst e
      have hR : R (optD (if isCount a true = true then some (lowN (numV a) 1) else none)) M := hR
      rw [if_pos q] at hR
      refine ss_one (s1_ret (ex_low Dl hr (ex_intS B.int (ex_at (ex_nm 1) ex_int (i_lst (n := 0) rfl)) ok.txt (by have := ok.len; omega)) (ex_if (tx_cp (ex_len len_lst B.len (ex_nm 1)) ex_int c_eqI) (fun h => absurd h (by simp)) fun _ => ex_int) (gpos (b := 1) Nat.one_pos) (by rw [Nat.gcd_one_right]; exact Nat.one_lt_two_pow (by decide))) (.of hR))
  have two : ∀ a b, parts = [a, b] → SS (Xd P w K mg base N_Lread "_law_read" s_Lread f cdv A outer s H E) ((defBody s_Lread).drop 1) [some (.str z), some (.lst (parts.map Dt.str)), none] M (PoF M R Z) := fun a b e => by
    refine ss_cons (s1_if (k := !(isCount a true && isCount b true && !decide (b = "0"))) (M1 := M) ?_ (fun q => ?_) fun q => ss_nil ?_)
    · refine ET.is (tx_w (wx_or (k := false) ((tx_cp (ex_len len_lst B.len (ex_nm 1)) ex_int c_gt).is (by rw [e]; rfl)) fun _ => wx_or (fil (pos1 := default) (pos2 := default) (by omega)) fun _ => wx_or1 (tx_w (wx_and (k := true) ((tx_cp (ex_len len_lst B.len (ex_nm 1)) ex_int c_eqI).is (by rw [e]; rfl)) fun _ => wx_and1 (tx_cp (ex_at (ex_nm 1) ex_int (i_lst (n := 1) (d := .str b) (by rw [e]; rfl))) ex_str c_eqS))))) ?_
      rw [e]
      simp [Bool.and_assoc, Bool.or_assoc]
    · have q : (isCount a true && isCount b true && !decide (b = "0")) = false := by
        cases h : (isCount a true && isCount b true && !decide (b = "0")) with
        | false => rfl
        | true => rw [h] at q; cases q
      rw [e] at hR
      have hR : R (optD (if (isCount a true && isCount b true && !decide (b = "0")) = true then some (lowN (numV a) (numV b)) else none)) M := hR
      rw [if_neg (by rw [q]; decide)] at hR
      exact ss_one (s1_ret ex_non (.of hR))
    · have q : (isCount a true && isCount b true && !decide (b = "0")) = true := by
        cases h : (isCount a true && isCount b true && !decide (b = "0")) with
        | true => rfl
        | false => rw [h] at q; cases q
      subst e
      have hR : R (optD (if (isCount a true && isCount b true && !decide (b = "0")) = true then some (lowN (numV a) (numV b)) else none)) M := hR
      rw [if_pos q] at hR
      rw [Bool.and_assoc] at q
      have q1 := (Bool.and_eq_true_iff.mp q).1
      have q2 := (Bool.and_eq_true_iff.mp q).2
      have oa := isCount_ok q1
      have ob := isCount_ok (Bool.and_eq_true_iff.mp q2).1
      have pb : 0 < numV b := isCount_pos (by rw [isCount_false]; exact q2)
      refine ss_one (s1_ret (ex_low Dl hr (ex_intS B.int (ex_at (ex_nm 1) ex_int (i_lst (n := 0) rfl)) oa.txt (by have := oa.len; omega)) (ex_if (tx_cp (ex_len len_lst B.len (ex_nm 1)) ex_int c_eqI) (fun _ => ex_intS B.int (ex_at (ex_nm 1) ex_int (i_lst (n := 1) rfl)) ob.txt (by have := ob.len; omega)) fun h => absurd h (by simp)) (gpos pb) (gcd_le_of (i := 240) pb (Nat.le_trans (Nat.le_of_lt ob.lt) (by decide)) (by decide))) (.of hR))
  have : parts.length = 1 ∨ parts.length = 2 := by omega
  rcases this with h | h
  · obtain ⟨a, e⟩ := List.length_eq_one_iff.mp h
    exact one a e
  · match parts, h, two with
    | [a, b], _, two => exact two a b rfl
end
end K1

set_option Elab.async false
set_option linter.all false
set_option maxRecDepth 100000
set_option maxHeartbeats 4000000
set_option exponentiation.threshold 100000
/-! K11: _law_draw, _law_of. -/
namespace K1
open PySem PySem.Spec PyProof.Rows L2 HM TX XN
/-- menu[draw] -/
def cOf : Ct := fun ds M R _ => ∃ (p : Addr) (b : Bx) (menu : List Dt) (M0 : Mst) (d : Dt), ds = [.raw (.ref p), .lst menu] ∧ M = (p, .l b.cells) :: M0 ∧ Bd 1000000 b ∧ 0 < menu.length ∧ menu.length ≤ 100000 ∧ menu[(draw b menu.length).1.toNat]? = some d ∧ R d ((p, .l (draw b menu.length).2.cells) :: M0)
section
variable {X : Cx} {e o i : Expr} {G : List (Option Dt)} {M M1 M2 M3 : Mst} {d : Dt} {pos sp : Pos} {T : Po} {p : Addr} {n : Nat}
theorem s1_setB (b : Bx) (he : EX X e G M d M1) (ho : EX X o G M1 (.raw (.ref p)) M2) (hi : EX X i G M2 (.int (n : Int)) ((p, .l b.cells) :: M3)) (hn : n < 6) (h : T.nx G ((p, .l (b.cells.set n d)) :: M3))
    (hs : swapsWithSole [.Subscript o i sp] e pos.line X.env = pure false := by rfl) (hw : swappedStores [.Subscript o i sp] e X.env = pure none := by rfl) (h1 : (assignEach [.Subscript o i sp] X.env).map (·.2) = [assign (.Subscript o i sp) X.env] := by rfl)
    (ha : ∀ v, assign (.Subscript o i sp) X.env v = (do
      let ov ← holding [v] (eval o X.env)
      let iv ← holding [v, ov] (eval i X.env)
      standAt sp
      holding [v, ov, iv] (setItem ov iv v)
      release [v, ov, iv] []) := by intro _; rfl) : S1 X (.Assign [.Subscript o i sp] e pos) G M T :=
  s1_setI he ho hi hn h (show 6 ≤ 100000 by decide) hs hw h1 ha
end
theorem mulBig {i j : Int} (hi : i.natAbs < 2 ^ 3000) (hj : j.natAbs < 2 ^ 3000) : CMulX i j := mulx_ok hi hj (by decide)
theorem small {i : Int} {n : Nat} (h0 : 0 ≤ i) (h : i < n) (hn : n ≤ 2 ^ 3000) : i.natAbs < 2 ^ 3000 := by omega
section
variable {P : Program} {w : World} {K : PySem.W.Frag} {mg : Str → Option Value} {base : Heap} {cl : Nat → Addr}
theorem b_Ldraw (B : Bl mg) : BodyOk P w K mg base N_Ldraw ["box", "size"] "_law_draw" s_Ldraw 0 cDraw := by
  intro f cdv A outer s H E ds M R Z hr hl ⟨p, b, size, M0, e, eM, hb, hs0, hs9, hR⟩
  subst e eM
  have sz : ∀ {b : Bx}, BxOk b → b.mix.natAbs < 2 ^ 3000 := fun h => small h.m0 h.m1 (by decide)
  -- behind the item
  have rest : ∀ (b' : Bx) (o : Option Dt), BxOk b' → 0 ≤ b'.n → b'.n ≤ 1000001 → give b' size = draw b size → SS (Xd P w K mg base N_Ldraw "_law_draw" s_Ldraw f cdv A outer s H E) ((defBody s_Ldraw).drop 2) [some (.raw (.ref p)), some (.int size), o, none] ((p, .l b'.cells) :: M0) (PoF ((p, .l b.cells) :: M0) R Z) := fun b' o hb' hn0 hn1 hg => by
    rw [← hg] at hR
    unfold give at hR
    refine ss_cons (s1_if (tx_cp (ex_atM (n := 2) (ds := b'.cells) (ex_nm 0) ex_int rfl) ex_int c_gt) (fun h => ?_) fun h => ss_nil ?_)
    · have h : 0 < b'.cur := of_decide_eq_true h
      rw [if_pos h] at hR
      refine ss_cons (s1_set 3 sc_Ldraw.nd (ex_bin (ex_intI B.int (ex_atM (n := 2) (ds := b'.cells) (ex_nm 0) ex_int rfl)) (ex_nm 1) (o_mod hs0)) ?_)
      refine ss_cons (s1_setB (n := 5) b' (ex_bin (ex_atM (n := 5) (ds := b'.cells) (ex_nm 0) ex_int rfl) ex_int o_sub) (ex_nm 0) ex_int (by decide) ?_)
      have e1 : (b'.cells.set 5 (.int (b'.left - 1))) = ({ b' with left := b'.left - 1 } : Bx).cells := rfl
      rw [e1]
      have hlog : CDivW b'.cur size := ⟨hs0, by
        have : size.natAbs < 2 ^ 8000 := by omega
        exact Nat.lt_trans ((Nat.log2_lt (by omega)).mpr this) (by decide)⟩
      refine ss_cons (s1_setB (n := 2) { b' with left := b'.left - 1 } (ex_if (d := .int (if 0 < b'.left - 1 then b'.cur / size else 0)) (tx_cp (ex_atM (n := 5) (ds := ({ b' with left := b'.left - 1 } : Bx).cells) (ex_nm 0) ex_int rfl) ex_int c_gt) (fun q => ?_) fun q => ?_) (ex_nm 0) ex_int (by decide) ?_)
      · have q : 0 < b'.left - 1 := of_decide_eq_true q
        rw [if_pos q]
        exact ex_bin (ex_atM (n := 2) (ds := ({ b' with left := b'.left - 1 } : Bx).cells) (ex_nm 0) ex_int rfl) (ex_nm 1) (o_div hlog)
      · have q : ¬ 0 < b'.left - 1 := of_decide_eq_false q
        rw [if_neg q]
        exact ex_int
      · exact ss_one (s1_ret (ex_nm 3) (.of hR))
    · have h : ¬ 0 < b'.cur := of_decide_eq_false h
      rw [if_neg h] at hR
      have hm3 : (b'.mix ^ 3).natAbs < 2 ^ 3000 := by
        have h0 := hb'.m0
        have h1 := hb'.m1
        have h2 : b'.mix.natAbs < 2 ^ 31 := by omega
        rw [Int.natAbs_pow]
        calc b'.mix.natAbs ^ 3 ≤ (2 ^ 31) ^ 3 := Nat.pow_le_pow_left (Nat.le_of_lt h2) 3
          _ < 2 ^ 3000 := by decide
      refine ss_cons (s1_setB (n := 3) b' (d := .int (mixTwo b')) (ex_bin (ex_intI B.int (ex_bin (ex_bin (EE.is (ex_bin (ex_atM (n := 3) (ds := b'.cells) (ex_nm 0) ex_int rfl) ex_int (o_pow (i := b'.mix) (j := 3) ⟨by decide, by decide, by have h0 := hb'.m0; have h1 := hb'.m1; omega⟩)) (show _ = Dt.int (b'.mix ^ 3) from rfl)) (ex_bin (ex_atM (n := 4) (ds := b'.cells) (ex_nm 0) ex_int rfl) ex_int (o_mul (mulBig (by omega) (by decide)))) o_add) ex_int o_add)) ex_int (o_mod (by decide))) (ex_nm 0) ex_int (by decide) ?_)
      have e1 : (b'.cells.set 3 (.int (mixTwo b'))) = ({ b' with mix := mixTwo b' } : Bx).cells := rfl
      rw [e1]
      have m0 : 0 ≤ mixTwo b' := Int.emod_nonneg _ (by decide)
      have m1 : mixTwo b' < 2147483579 := Int.emod_lt_of_pos _ (by decide)
      have m7 : 0 ≤ mixTwo b' % 7907 ∧ mixTwo b' % 7907 < 7907 := ⟨Int.emod_nonneg _ (by decide), Int.emod_lt_of_pos _ (by decide)⟩
      refine ss_one (s1_ret (ex_bin (ex_intI B.int (ex_bin (ex_bin (ex_atM (n := 3) (ds := ({ b' with mix := mixTwo b' } : Bx).cells) (ex_nm 0) ex_int rfl) ex_int (o_div ⟨by decide, by decide⟩)) (ex_bin (ex_bin (ex_intI B.int (ex_atM (n := 3) (ds := ({ b' with mix := mixTwo b' } : Bx).cells) (ex_nm 0) ex_int rfl)) ex_int (o_mod (by decide))) ex_int (o_mul (mulBig (by omega) (by decide)))) o_add)) (ex_nm 1) (o_mod hs0)) (.of hR))
  -- the count
  refine ss_cons (s1_setB (n := 4) b (ex_bin (ex_atM (n := 4) (ds := b.cells) (ex_nm 0) ex_int rfl) ex_int o_add) (ex_nm 0) ex_int (by decide) ?_)
  have e1 : (b.cells.set 4 (.int (b.n + 1))) = ({ b with n := b.n + 1 } : Bx).cells := rfl
  rw [e1]
  obtain ⟨b1, eb⟩ : ∃ b1 : Bx, b1 = { b with n := b.n + 1 } := ⟨_, rfl⟩
  rw [← eb]
  have hd : draw b size = give (take1 b1) size := by rw [eb]; rfl
  have ok1 : BxOk b1 := by rw [eb]; exact ⟨hb.c, hb.m0, hb.m1⟩
  have n1 : 0 ≤ b1.n ∧ b1.n ≤ 1000001 := by
    rw [eb]
    have h0 := hb.n0
    have h1 := hb.n1
    constructor
    · show 0 ≤ b.n + 1
      omega
    · show b.n + 1 ≤ _
      omega
  clear eb e1
  refine ss_cons (s1_if (k := decide (b1.cur = 0) && decide (b1.i < b1.its.length)) (M1 := (p, .l b1.cells) :: M0) ?_ (fun h => ?_) fun h => ss_nil ?_)
  · refine ET.is (tx_w (wx_and (tx_cp (ex_atM (n := 2) (ds := b1.cells) (ex_nm 0) ex_int rfl) ex_int c_eqI) fun _ => wx_and1 (tx_cp (ex_atM (n := 1) (ds := b1.cells) (ex_nm 0) ex_int rfl) (ex_len len_lst B.len (ex_atM (n := 0) (ds := b1.cells) (ex_nm 0) ex_int rfl)) c_decLt))) ?_
    simp
  · have h : b1.cur = 0 ∧ b1.i < b1.its.length := by simpa using h
    have hit : b1.its[b1.i]? = some b1.its[b1.i] := List.getElem?_eq_getElem h.2
    generalize b1.its[b1.i] = item at hit
    refine ss_cons (s1_set 2 sc_Ldraw.nd (ex_at (d := .int item) (ex_atM (n := 0) (ds := b1.cells) (ex_nm 0) ex_int rfl) (ex_atM (n := 1) (ds := b1.cells) (ex_nm 0) ex_int rfl) (i_lst (by rw [List.getElem?_map, hit]; rfl))) ?_)
    refine ss_cons (s1_setB (n := 1) b1 (ex_bin (ex_atM (n := 1) (ds := b1.cells) (ex_nm 0) ex_int rfl) ex_int o_add) (ex_nm 0) ex_int (by decide) ?_)
    have e2 : (b1.cells.set 1 (.int ((b1.i : Int) + 1))) = ({ b1 with i := b1.i + 1 } : Bx).cells := by
      show _ = [Dt.lst (b1.its.map Dt.int), .int (((b1.i + 1 : Nat)) : Int), _, _, _, _]
      rw [Int.natCast_add]
      rfl
    rw [e2]
    have ht : take1 b1 = if 10 ^ 18 ≤ item then { b1 with i := b1.i + 1, cur := item, left := 60 } else { b1 with i := b1.i + 1, mix := mixOne b1 item } := by
      unfold take1
      rw [if_pos h.1, hit]
    have tk := take1_ok ok1
    refine ss_one (s1_if (tx_cp (d2 := .int (10 ^ 18)) (ex_nm 2) (EE.is (ex_bin ex_int ex_int (o_pow (i := 10) (j := 18) ⟨by decide, by decide, by decide⟩)) rfl) c_ge) (fun q => ?_) fun q => ?_)
    · have q : (10 : Int) ^ 18 ≤ item := of_decide_eq_true q
      rw [if_pos q] at ht
      refine ss_cons (s1_setB (n := 2) { b1 with i := b1.i + 1 } (ex_nm 2) (ex_nm 0) ex_int (by decide) ?_)
      refine ss_one (s1_setB (n := 5) { b1 with i := b1.i + 1, cur := item } ex_int (ex_nm 0) ex_int (by decide) ?_)
      exact rest { b1 with i := b1.i + 1, cur := item, left := 60 } _ (by rw [← ht]; exact tk) n1.1 n1.2 (by rw [hd, ht])
    · have q : ¬ (10 : Int) ^ 18 ≤ item := of_decide_eq_false q
      rw [if_neg q] at ht
      have m5 : 0 ≤ item % 2147483587 ∧ item % 2147483587 < 2147483587 := ⟨Int.emod_nonneg _ (by decide), Int.emod_lt_of_pos _ (by decide)⟩
      refine ss_one (s1_setB (n := 3) { b1 with i := b1.i + 1 } (d := .int (mixOne b1 item)) (ex_bin (ex_intI B.int (ex_bin (ex_bin (ex_bin (ex_atM (n := 3) (ds := ({ b1 with i := b1.i + 1 } : Bx).cells) (ex_nm 0) ex_int rfl) ex_int (o_mul (mulBig (sz (b := b1) ok1) (by decide)))) (ex_bin (ex_bin (ex_intI B.int (ex_nm 2)) ex_int (o_mod (by decide))) ex_int (o_mul (mulBig (by omega) (by decide)))) o_add) ex_int o_add)) ex_int (o_mod (by decide))) (ex_nm 0) ex_int (by decide) ?_)
      exact rest { b1 with i := b1.i + 1, mix := mixOne b1 item } _ (by rw [← ht]; exact tk) n1.1 n1.2 (by rw [hd, ht])
  · have h2 : take1 b1 = b1 := by
      unfold take1
      split
      · rename_i h0
        have : ¬ b1.i < b1.its.length := fun h1 => by
          rw [decide_eq_true h0, decide_eq_true h1] at h
          cases h
        rw [List.getElem?_eq_none (by omega)]
      · rfl
    exact rest b1 none ok1 n1.1 n1.2 (by rw [hd, h2])
end
end K1

set_option Elab.async false
set_option linter.all false
set_option maxRecDepth 100000
set_option maxHeartbeats 4000000
set_option exponentiation.threshold 100000
/-! K12: odd things, fractions, drawn. -/
namespace K1
open PySem PySem.Spec PyProof.Rows L2 HM TX XN
section
variable {X : Cx} {e e1 e2 a : Expr} {G : List (Option Dt)} {M M0 M1 M2 : Mst} {d : Dt} {pos pos1 p1 p2 p3 : Pos} {p : Addr} {b : Bx} {size : Int} {i : Nat} {x : Str}
theorem ex_neg {j : Int} (h : EX X e G M (.int j) M1) : EX X (.UnaryOp .USub e pos) G M (.int (-j)) M1 := ex_un un_neg (UnD.now (d1 := .int j) fun F H x Q _ r q => ⟨j, r, q _ rfl⟩) h
theorem ex_dic0 : EX X (.Dict [] [] pos) G M (.dic [] []) M := ⟨rfl, fun σ F H Q r s q => w_e pe_dnewK fun p hp => q _ _ _ (gr_new s hp) (s.new hp) ⟨p, [], rfl, upd_same, rfl, rfl⟩⟩
theorem upd2 {H : Hp} {p : Addr} {u v : HO} : upd (upd H p u) p v = upd H p v := by
  funext c
  by_cases h : c = p
  · subst h
    rw [upd_same, upd_same]
  · rw [upd_ne h, upd_ne h, upd_ne h]
theorem ex_dic1 {k k2} {z : Str} {j : Int} : EX X (.Dict [some (.Constant (.str z) k p1)] [.Constant (.int j) k2 p2] pos) G M (.dic [z] [.int j]) M := ⟨rfl, fun σ F H Q r s q => w_e (pe_disp (pps_cons pe_str pe_int pps_nil) rfl rfl (by simp) (by simp)) fun p hp => by
  refine ⟨upd_same, [(.inr z, .int j)], rfl, by simp, ?_⟩
  rw [upd2]
  exact q _ _ _ (gr_new s hp) (s.new hp) ⟨p, [.int j], rfl, upd_same, rfl, ⟨_, _, rfl, rfl, rfl⟩⟩⟩
theorem Bd.n10 {k : Int} {b : Bx} (h : Bd k b) (hk : k ≤ 1000000 := by omega) : Bd 1000000 b := h.mono hk
/-- _law_draw(box, e) -/
theorem ex_draw (D : Df X.prog X.w X.K X.mg X.base "_law_draw" 1 cDraw) (hr : Room i X.A) (hb : Bd 1000000 b) (he1 : EX X e1 G ((p, .l b.cells) :: M0) (.raw (.ref p)) ((p, .l b.cells) :: M0)) (he2 : EX X e2 G ((p, .l b.cells) :: M0) (.int size) ((p, .l b.cells) :: M0)) (hs0 : 0 < size := by decide) (hs : size < 2 ^ 8000 := by decide)
    (hi : 1 ≤ i := by decide) (hgl : Gl X "_law_draw" := by rfl) (hs1 : starEach [e1, e2] X.env = (false, eval e1 X.env) :: starEach [e2] X.env := by rfl) (hs2 : starEach [e2] X.env = (false, eval e2 X.env) :: starEach [] X.env := by rfl) (hpl : (backTo p2 (starEach [e2] X.env)).any (·.1) = false := by rfl) :
    EX X (.Call (.Name "_law_draw" p1) [e1, e2] [] p2) G ((p, .l b.cells) :: M0) (.int (draw b size).1) ((p, .l (draw b size).2.cells) :: M0) :=
  ex_call D hr (ax_cons he1 (ax_cons he2 ax_nil hs2) hs1) ⟨p, b, size, M0, rfl, rfl, hb, hs0, hs, rfl, rfl⟩ rfl hi hgl (by decide) hs1 hpl
/-- 10 ** j -/
theorem ex_ten {j : Nat} {k1 k2} (hj : j ≤ 1000) : EX X (.BinOp (.Constant (.int 10) k1 p1) .Pow (.Constant (.int (j : Int)) k2 p2) pos) G M (.int (10 ^ j)) M :=
  EE.is (ex_bin ex_int ex_int (o_pow (i := 10) (j := (j : Int)) ⟨by omega, by omega, by decide⟩)) (by rw [Int.toNat_natCast])
end
/-! ### odd things -/
def oddL : List Dt := [.non, .bl true, .bl false, .int (-1), .int 0, .int 1, .int 2, .int 7, .int (-3), .int (10 ^ 30), .str "", .str "0", .str "x", .str "1/2", .str "A", .str "a b", .tup [], .tup [.int 1], .tup [.int 0, .int 0], .tup [.int 1, .int 0], .tup [.int 1, .int (-2)], .tup [.int (-1), .int 2], .tup [.bl true, .int 2],
  .tup [.int 1, .bl false], .tup [.str "1", .int 2], .tup [.int 1, .non], .tup [.int 1, .int 2, .int 3], .lst [.int 1, .int 2], .lst [], .dic [] [], .dic ["a"] [.int 1], .tup [.tup [.int 1, .int 2]], .lst [.non], .tup [.int 1, .tup [.int 2, .tup [.int 3, .tup [.int 4]]]]]
def oddM (b : Bx) : Dt × Bx := ((oddL.getD (draw b 34).1.toNat .non), (draw b 34).2)
def cOdd : Ct := fun ds M R _ => ∃ (p : Addr) (b : Bx) (M0 : Mst), ds = [.raw (.ref p)] ∧ M = (p, .l b.cells) :: M0 ∧ Bd 999000 b ∧ R (oddM b).1 ((p, .l (oddM b).2.cells) :: M0)
def fracM (b : Bx) : Dt × Bx :=
  let c := draw b 10
  if c.1 = 0 then (.int (draw c.2 20).1, (draw c.2 20).2)
  else if c.1 = 1 then (.tup [.int 0, .int (1 + (draw c.2 9).1)], (draw c.2 9).2)
  else if c.1 = 2 then
    let x1 := draw c.2 (10 ^ 9)
    let x2 := draw x1.2 (10 ^ 9)
    let x3 := draw x2.2 (10 ^ 9)
    let x4 := draw x3.2 (10 ^ 9)
    (.tup [.int (x1.1 * 10 ^ 31 + x2.1), .int (1 + x3.1 * 10 ^ 21 + x4.1)], x4.2)
  else if c.1 = 3 then
    let x1 := draw c.2 (10 ^ 9)
    let x2 := draw x1.2 9
    let x3 := draw x2.2 9
    (.tup [.int ((1 + x1.1) * x2.1), .int ((1 + x1.1) * (1 + x3.1))], x3.2)
  else if c.1 = 4 then
    let x1 := draw c.2 9
    (.tup [.int (1 + x1.1), .int (1 + x1.1)], x1.2)
  else
    let x1 := draw c.2 24
    let x2 := draw x1.2 14
    (.tup [.int x1.1, .int (1 + x2.1)], x2.2)
def cFrac : Ct := fun ds M R _ => ∃ (p : Addr) (b : Bx) (M0 : Mst), ds = [.raw (.ref p)] ∧ M = (p, .l b.cells) :: M0 ∧ Bd 999000 b ∧ R (fracM b).1 ((p, .l (fracM b).2.cells) :: M0)
section
variable {P : Program} {w : World} {K : PySem.W.Frag} {mg : Str → Option Value} {base : Heap} {cl : Nat → Addr}
theorem b_Lof (B : Bl mg) (D : Df P w K mg base "_law_draw" 1 cDraw) : BodyOk P w K mg base N_Lof ["box", "menu"] "_law_of" s_Lof 1 cOf := by
  intro f cdv A outer s H E ds M R Z hr hl ⟨p, b, menu, M0, d, e, eM, hb, h0, h9, hd, hR⟩
  subst e eM
  have hs : ((menu.length : Nat) : Int) < 2 ^ 8000 := by
    have : (100001 : Int) ≤ 2 ^ 8000 := by decide
    omega
  have hdr := draw_ok (size := (menu.length : Int)) hb (by omega)
  refine ss_one (s1_ret (ex_at (ex_nm 1) (ex_draw D hr hb (ex_nm 0) (ex_len len_lst B.len (ex_nm 1)) (by omega) hs) ?_) (.of hR))
  have e : (draw b menu.length).1 = (((draw b menu.length).1.toNat : Nat) : Int) := (Int.toNat_of_nonneg hdr.2.1).symm
  rw [e]
  exact i_lst hd
theorem b_Lodd (B : Bl mg) (D : Df P w K mg base "_law_of" 2 cOf) : BodyOk P w K mg base N_Lodd ["box"] "_law_odd" s_Lodd 2 cOdd := by
  intro f cdv A outer s H E ds M R Z hr hl ⟨p, b, M0, e, eM, hb, hR⟩
  subst e eM
  refine ss_cons (s1_set 1 sc_Lodd.nd (d := .lst (oddL.take 23)) (EE.is (ex_ls (ax_cons ex_non <| ax_cons ex_bl <| ax_cons ex_bl <| ax_cons (ex_neg ex_int) <| ax_cons ex_int <| ax_cons ex_int <| ax_cons ex_int <| ax_cons ex_int <| ax_cons (ex_neg ex_int) <| ax_cons (ex_ten (j := 30) (by decide)) <|
    ax_cons ex_str <| ax_cons ex_str <| ax_cons ex_str <| ax_cons ex_str <| ax_cons ex_str <| ax_cons ex_str <| ax_cons (ex_tp ax_nil) <| ax_cons (ex_tp (ax_cons ex_int ax_nil)) <| ax_cons (ex_tp (ax_cons ex_int (ax_cons ex_int ax_nil))) <| ax_cons (ex_tp (ax_cons ex_int (ax_cons ex_int ax_nil))) <|
    ax_cons (ex_tp (ax_cons ex_int (ax_cons (ex_neg ex_int) ax_nil))) <| ax_cons (ex_tp (ax_cons (ex_neg ex_int) (ax_cons ex_int ax_nil))) <| ax_cons (ex_tp (ax_cons ex_bl (ax_cons ex_int ax_nil))) ax_nil)) rfl) ?_)
  have hdr := draw_ok (size := 34) (hb.n10) (by decide)
  refine ss_one (s1_ret (d := (oddM b).1) (ex_call D hr (ax_cons (ex_nm 0) (ax_cons (d := .lst oddL) (EE.is (ex_bin (ex_nm 1) (ex_ls (ax_cons (ex_tp (ax_cons ex_int (ax_cons ex_bl ax_nil))) <| ax_cons (ex_tp (ax_cons ex_str (ax_cons ex_int ax_nil))) <| ax_cons (ex_tp (ax_cons ex_int (ax_cons ex_non ax_nil))) <| ax_cons (ex_tp (ax_cons ex_int (ax_cons ex_int (ax_cons ex_int ax_nil)))) <|
    ax_cons (ex_ls (ax_cons ex_int (ax_cons ex_int ax_nil))) <| ax_cons (ex_ls ax_nil) <| ax_cons ex_dic0 <| ax_cons ex_dic1 <| ax_cons (ex_tp (ax_cons (ex_tp (ax_cons ex_int (ax_cons ex_int ax_nil))) ax_nil)) <| ax_cons (ex_ls (ax_cons ex_non ax_nil)) <|
    ax_cons (ex_tp (ax_cons ex_int (ax_cons (ex_tp (ax_cons ex_int (ax_cons (ex_tp (ax_cons ex_int (ax_cons (ex_tp (ax_cons ex_int ax_nil)) ax_nil))) ax_nil))) ax_nil))) ax_nil)) (o_catL (by decide))) rfl) ax_nil)) ⟨p, b, oddL, M0, (oddM b).1, rfl, rfl, hb.n10, by decide, by decide, ?_, rfl, rfl⟩) (.of hR))
  show oddL[(draw b 34).1.toNat]? = some (oddL.getD (draw b 34).1.toNat .non)
  have hlt : (draw b 34).1.toNat < oddL.length := by
    show _ < 34
    omega
  rw [List.getD_eq_getElem?_getD, List.getElem?_eq_getElem hlt]
  rfl
theorem mulOk {i j : Int} {n m : Int} (h0 : 0 ≤ i) (h1 : i < n) (g0 : 0 ≤ j) (g1 : j < m) (hn : n ≤ 2 ^ 3000 := by decide) (hm : m ≤ 2 ^ 3000 := by decide) : CMulX i j := mulBig (by omega) (by omega)
theorem b_Lfraction (B : Bl mg) (D : Df P w K mg base "_law_draw" 1 cDraw) : BodyOk P w K mg base N_Lfraction ["box"] "_law_fraction" s_Lfraction 1 cFrac := by
  intro f cdv A outer s H E ds M R Z hr hl ⟨p, b, M0, e, eM, hb, hR⟩
  subst e eM
  obtain ⟨b1, o0, o1⟩ := draw_ok (size := 10) hb (by decide)
  unfold fracM at hR
  refine ss_cons (s1_set 1 sc_Lfraction.nd (ex_draw D hr hb.n10 (ex_nm 0) ex_int) ?_)
  generalize draw b 10 = c at hR b1 o0 o1
  refine ss_cons (s1_if (tx_cp (ex_nm 1) ex_int c_eqI) (fun h => ?_) fun h => ss_nil ?_)
  · rw [if_pos (of_decide_eq_true h)] at hR
    exact ss_one (s1_ret (ex_draw D hr b1.n10 (ex_nm 0) ex_int) (.of hR))
  rw [if_neg (of_decide_eq_false h)] at hR
  refine ss_cons (s1_if (tx_cp (ex_nm 1) ex_int c_eqI) (fun h => ?_) fun h => ss_nil ?_)
  · rw [if_pos (of_decide_eq_true h)] at hR
    exact ss_one (s1_ret (ex_tp (ax_cons ex_int (ax_cons (ex_bin ex_int (ex_draw D hr b1.n10 (ex_nm 0) ex_int) o_add) ax_nil))) (.of hR))
  rw [if_neg (of_decide_eq_false h)] at hR
  refine ss_cons (s1_if (tx_cp (ex_nm 1) ex_int c_eqI) (fun h => ?_) fun h => ss_nil ?_)
  · rw [if_pos (of_decide_eq_true h)] at hR
    obtain ⟨b2, p0, p1⟩ := draw_ok (size := 10 ^ 9) b1 (by decide)
    obtain ⟨b3, q0, q1⟩ := draw_ok (size := 10 ^ 9) b2 (by decide)
    obtain ⟨b4, r0, r1⟩ := draw_ok (size := 10 ^ 9) b3 (by decide)
    exact ss_one (s1_ret (ex_tp (ax_cons (ex_bin (ex_bin (ex_draw D hr b1.n10 (ex_nm 0) (ex_ten (j := 9) (by decide))) (ex_ten (j := 31) (by decide)) (o_mul (mulOk p0 p1 (m := 10 ^ 32) (by decide) (by decide)))) (ex_draw D hr b2.n10 (ex_nm 0) (ex_ten (j := 9) (by decide))) o_add)
      (ax_cons (ex_bin (ex_bin ex_int (ex_bin (ex_draw D hr b3.n10 (ex_nm 0) (ex_ten (j := 9) (by decide))) (ex_ten (j := 21) (by decide)) (o_mul (mulOk r0 r1 (m := 10 ^ 22) (by decide) (by decide)))) o_add) (ex_draw D hr b4.n10 (ex_nm 0) (ex_ten (j := 9) (by decide))) o_add) ax_nil))) (.of hR))
  rw [if_neg (of_decide_eq_false h)] at hR
  refine ss_cons (s1_if (tx_cp (ex_nm 1) ex_int c_eqI) (fun h => ?_) fun h => ss_nil ?_)
  · rw [if_pos (of_decide_eq_true h)] at hR
    obtain ⟨b2, p0, p1⟩ := draw_ok (size := 10 ^ 9) b1 (by decide)
    obtain ⟨b3, q0, q1⟩ := draw_ok (size := 9) b2 (by decide)
    obtain ⟨b4, r0, r1⟩ := draw_ok (size := 9) b3 (by decide)
    refine ss_cons (s1_set 2 sc_Lfraction.nd (ex_bin ex_int (ex_draw D hr b1.n10 (ex_nm 0) (ex_ten (j := 9) (by decide))) o_add) ?_)
    exact ss_one (s1_ret (ex_tp (ax_cons (ex_bin (ex_nm 2) (ex_draw D hr b2.n10 (ex_nm 0) ex_int) (o_mul (mulOk (n := 10 ^ 10) (by omega) (by omega) q0 q1))) (ax_cons (ex_bin (ex_nm 2) (ex_bin ex_int (ex_draw D hr b3.n10 (ex_nm 0) ex_int) o_add) (o_mul (mulOk (n := 10 ^ 10) (m := 20) (by omega) (by omega) (by omega) (by omega)))) ax_nil))) (.of hR))
  rw [if_neg (of_decide_eq_false h)] at hR
  refine ss_cons (s1_if (tx_cp (ex_nm 1) ex_int c_eqI) (fun h => ?_) fun h => ss_nil ?_)
  · rw [if_pos (of_decide_eq_true h)] at hR
    refine ss_cons (s1_set 2 sc_Lfraction.nd (ex_bin ex_int (ex_draw D hr b1.n10 (ex_nm 0) ex_int) o_add) ?_)
    exact ss_one (s1_ret (ex_tp (ax_cons (ex_nm 2) (ax_cons (ex_nm 2) ax_nil))) (.of hR))
  rw [if_neg (of_decide_eq_false h)] at hR
  obtain ⟨b2, p0, p1⟩ := draw_ok (size := 24) b1 (by decide)
  exact ss_one (s1_ret (ex_tp (ax_cons (ex_draw D hr b1.n10 (ex_nm 0) ex_int) (ax_cons (ex_bin ex_int (ex_draw D hr b2.n10 (ex_nm 0) ex_int) o_add) ax_nil))) (.of hR))
end
end K1

set_option Elab.async false
set_option linter.all false
set_option maxRecDepth 100000
set_option maxHeartbeats 4000000
set_option exponentiation.threshold 100000
/-! K13: what is drawn is in bounds; texts drawn. -/
namespace K1
open PySem PySem.Spec PyProof.Rows L2 HM TX XN
theorem frS_pair {a b : Int} (h0 : 0 ≤ a) (h1 : 1 ≤ b) (h2 : a ≤ 2 ^ 200) (h3 : b ≤ 2 ^ 200) : isFr (.tup [.int a, .int b]) = true ∧ Sz 200 (frN (.tup [.int a, .int b])) := by
  refine ⟨by simp [isFr]; omega, ?_, ?_⟩
  · show a.toNat ≤ 2 ^ 200
    omega
  · show b.toNat ≤ 2 ^ 200
    omega
theorem fracM_ok {k : Int} {b : Bx} (h : Bd k b) : Bd (k + 5) (fracM b).2 ∧ isFr (fracM b).1 = true ∧ Sz 200 (frN (fracM b).1) := by
  have d10 := draw_ok (size := 10) h (by decide)
  unfold fracM
  generalize draw b 10 = c at d10
  obtain ⟨b1, _, _⟩ := d10
  by_cases h0 : c.1 = 0
  · simp only [h0, if_true]
    obtain ⟨b2, p0, p1⟩ := draw_ok (size := 20) b1 (by decide)
    refine ⟨b2.mono (by omega), by simp [isFr]; omega, ?_, ?_⟩
    · show (draw c.2 20).1.toNat ≤ 2 ^ 200
      omega
    · show 1 ≤ 2 ^ 200
      decide
  simp only [h0, if_false]
  by_cases h1 : c.1 = 1
  · simp only [h1, if_true]
    obtain ⟨b2, p0, p1⟩ := draw_ok (size := 9) b1 (by decide)
    have := frS_pair (a := 0) (b := 1 + (draw c.2 9).1) (by decide) (by omega) (by decide) (by omega)
    exact ⟨b2.mono (by omega), this.1, this.2⟩
  simp only [h1, if_false]
  by_cases h2 : c.1 = 2
  · simp only [h2, if_true]
    obtain ⟨b2, p0, p1⟩ := draw_ok (size := 10 ^ 9) b1 (by decide)
    obtain ⟨b3, q0, q1⟩ := draw_ok (size := 10 ^ 9) b2 (by decide)
    obtain ⟨b4, r0, r1⟩ := draw_ok (size := 10 ^ 9) b3 (by decide)
    obtain ⟨b5, s0, s1⟩ := draw_ok (size := 10 ^ 9) b4 (by decide)
    have := frS_pair (a := (draw c.2 (10 ^ 9)).1 * 10 ^ 31 + (draw (draw c.2 (10 ^ 9)).2 (10 ^ 9)).1) (b := 1 + (draw (draw (draw c.2 (10 ^ 9)).2 (10 ^ 9)).2 (10 ^ 9)).1 * 10 ^ 21 + (draw (draw (draw (draw c.2 (10 ^ 9)).2 (10 ^ 9)).2 (10 ^ 9)).2 (10 ^ 9)).1) (by omega) (by omega) (by omega) (by omega)
    exact ⟨b5.mono (by omega), this.1, this.2⟩
  simp only [h2, if_false]
  by_cases h3 : c.1 = 3
  · simp only [h3, if_true]
    obtain ⟨b2, p0, p1⟩ := draw_ok (size := 10 ^ 9) b1 (by decide)
    obtain ⟨b3, q0, q1⟩ := draw_ok (size := 9) b2 (by decide)
    obtain ⟨b4, r0, r1⟩ := draw_ok (size := 9) b3 (by decide)
    generalize (draw c.2 (10 ^ 9)).1 = x at *
    generalize (draw (draw c.2 (10 ^ 9)).2 9).1 = y at *
    generalize (draw (draw (draw c.2 (10 ^ 9)).2 9).2 9).1 = z at *
    have m1 : 0 ≤ (1 + x) * y := Int.mul_nonneg (by omega) q0
    have m2 : (1 + x) * y ≤ 10 ^ 9 * 9 := Int.mul_le_mul (by omega) (by omega) q0 (by decide)
    have m3 : 1 * 1 ≤ (1 + x) * (1 + z) := Int.mul_le_mul (by omega) (by omega) (by decide) (by omega)
    have m4 : (1 + x) * (1 + z) ≤ 10 ^ 9 * 9 := Int.mul_le_mul (by omega) (by omega) (by omega) (by decide)
    have := frS_pair (a := (1 + x) * y) (b := (1 + x) * (1 + z)) m1 (by omega) (by omega) (by omega)
    exact ⟨b4.mono (by omega), this.1, this.2⟩
  simp only [h3, if_false]
  by_cases h4 : c.1 = 4
  · simp only [h4, if_true]
    obtain ⟨b2, p0, p1⟩ := draw_ok (size := 9) b1 (by decide)
    have := frS_pair (a := 1 + (draw c.2 9).1) (b := 1 + (draw c.2 9).1) (by omega) (by omega) (by omega) (by omega)
    exact ⟨b2.mono (by omega), this.1, this.2⟩
  simp only [h4, if_false]
  obtain ⟨b2, p0, p1⟩ := draw_ok (size := 24) b1 (by decide)
  obtain ⟨b3, q0, q1⟩ := draw_ok (size := 14) b2 (by decide)
  have := frS_pair (a := (draw c.2 24).1) (b := 1 + (draw (draw c.2 24).2 14).1) (by omega) (by omega) (by omega) (by omega)
  exact ⟨b3.mono (by omega), this.1, this.2⟩
theorem oddM_ok {k : Int} {b : Bx} (h : Bd k b) : Bd (k + 1) (oddM b).2 ∧ (oddM b).1 ∈ oddL := by
  obtain ⟨b1, p0, p1⟩ := draw_ok (size := 34) h (by decide)
  refine ⟨b1, ?_⟩
  have hlt : (draw b 34).1.toNat < oddL.length := by
    show _ < 34
    omega
  show oddL.getD (draw b 34).1.toNat .non ∈ oddL
  rw [List.getD_eq_getElem?_getD, List.getElem?_eq_getElem hlt]
  exact List.getElem_mem hlt
def frB (d : Dt) : Bool := okd d && (!isFr d || (decide ((frN d).1 ≤ 2 ^ 200) && decide ((frN d).2 ≤ 2 ^ 200)))
theorem frB_ok {d : Dt} (h : frB d = true) : okd d = true ∧ FrS 200 d := by
  obtain ⟨h1, h2⟩ := Bool.and_eq_true_iff.mp h
  refine ⟨h1, fun hf => ?_⟩
  rw [hf] at h2
  have : (frN d).1 ≤ 2 ^ 200 ∧ (frN d).2 ≤ 2 ^ 200 := by simpa using h2
  exact this
theorem oddL_ok : ∀ d ∈ oddL, okd d = true ∧ FrS 200 d := fun d hd => frB_ok (List.all_eq_true.mp (show oddL.all frB = true by decide +kernel) d hd)
/-! ### texts -/
theorem mulS_len (z : Str) (n : Nat) : (mulS z n).length = z.length * n := by
  unfold mulS
  split
  · rename_i h
    rw [h]
    rfl
  · split
    · rename_i h
      rcases h with h | h
      · rw [h, Nat.mul_one]
      · rw [h, Nat.zero_mul]
    · have key : ∀ (m : Nat) (acc : Array Nat), ((List.replicate m z.cps).foldl (· ++ ·) acc).size = acc.size + z.cps.size * m := by
        intro m
        induction m with
        | zero => intro acc; simp
        | succ m ih =>
          intro acc
          rw [List.replicate_succ, List.foldl_cons, ih]
          simp [Nat.mul_succ]
          omega
      show (List.foldl (· ++ ·) #[] (List.replicate n z.cps)).size = _
      rw [key]
      simp [Str.length]
def tI (i : Int) : Str := toString i
theorem tI_len {i : Int} (h0 : 0 ≤ i) (h : i < 100) : (tI i).length ≤ 3 := by
  show (Str.ofString (toString i)).length ≤ 3
  rw [PySem.ofString_length]
  exact int_text_length_le10 (k := 2) (by decide) (by omega)
def figM (b : Bx) (n : Nat) : Str × Bx := (tI (1 + (draw b 9).1) ++ mulS (tI (draw (draw b 9).2 10).1) (n - 1), (draw (draw b 9).2 10).2)
def cFig : Ct := fun ds M R _ => ∃ (p : Addr) (b : Bx) (n : Nat) (M0 : Mst), ds = [.raw (.ref p), .int (n : Int)] ∧ M = (p, .l b.cells) :: M0 ∧ Bd 999900 b ∧ 1 ≤ n ∧ n ≤ 100 ∧ R (.str (figM b n).1) ((p, .l (figM b n).2.cells) :: M0)
theorem slen (x y : Str) : (x ++ y).length = x.length + y.length := Array.size_append
theorem figM_ok {k : Int} {b : Bx} {n : Nat} (h : Bd k b) (hn : n ≤ 100) : Bd (k + 2) (figM b n).2 ∧ (figM b n).1.length ≤ 1000 := by
  obtain ⟨b1, p0, p1⟩ := draw_ok (size := 9) h (by decide)
  obtain ⟨b2, q0, q1⟩ := draw_ok (size := 10) b1 (by decide)
  refine ⟨b2.mono (by omega), ?_⟩
  show (tI _ ++ mulS _ _).length ≤ 1000
  rw [slen, mulS_len]
  have l1 := tI_len (i := 1 + (draw b 9).1) (by omega) (by omega)
  have l2 := tI_len (i := (draw (draw b 9).2 10).1) q0 (by omega)
  have : (tI (draw (draw b 9).2 10).1).length * (n - 1) ≤ 3 * 100 := Nat.mul_le_mul l2 (by omega)
  omega
def nearA : List Str := ([("" : Str), "/", "1/", "/2", "007", "1/0", "0/0", "-1", "1/-2", "+1", "1_0", " 1", "1 ", "1/2/3", "1\n", "\n1", "1.0", "0x1", "00"] : List Str) ++ [("01/2" : Str), "1/02", "0/5", "2/6", "2/1", "1 /2", "1/ 2", "1e3", "0", "/", "1//2", "5/5", "0/1", "0/07", "00/1", "1/2\n", "one", "1,2", "(1, 2)"]
def nearB : List Str := ["0", "00", "01", "7", "-7", "+7", " 7", "7 "]
def nearM (b : Bx) : Str × Bx :=
  let c := draw b 6
  if c.1 < 2 then (nearA.getD (draw c.2 38).1.toNat "", (draw c.2 38).2)
  else if c.1 = 2 then
    let x := draw c.2 3
    let u := figM x.2 (59 + x.1.toNat)
    let y := draw u.2 3
    let v := figM y.2 (59 + y.1.toNat)
    ((u.1 ++ slS) ++ v.1, v.2)
  else if c.1 = 3 then
    let x := draw c.2 2
    figM x.2 (60 + x.1.toNat)
  else if c.1 = 4 then
    let x := draw c.2 3
    let u := figM x.2 (1 + x.1.toNat)
    let y := draw u.2 8
    ((u.1 ++ slS) ++ nearB.getD y.1.toNat "", y.2)
  else
    let x := draw c.2 50
    let y := draw x.2 50
    ((tI x.1 ++ slS) ++ tI y.1, y.2)
theorem getD_len {l : List Str} {i : Nat} (h : l.all (fun z => decide (z.length ≤ 100)) = true) : (l.getD i "").length ≤ 100 := by
  rw [List.getD_eq_getElem?_getD]
  cases e : l[i]? with
  | none => decide
  | some z => exact of_decide_eq_true (List.all_eq_true.mp h z (List.mem_of_getElem? e))
theorem nearM_ok {k : Int} {b : Bx} (h : Bd k b) : Bd (k + 10) (nearM b).2 ∧ (nearM b).1.length ≤ 100000 := by
  have d0 := draw_ok (size := 6) h (by decide)
  have ls : slS.length = 1 := rfl
  unfold nearM
  generalize draw b 6 = c at d0
  obtain ⟨b1, _, _⟩ := d0
  by_cases h0 : c.1 < 2
  · simp only [h0, if_true]
    obtain ⟨b2, p0, p1⟩ := draw_ok (size := 38) b1 (by decide)
    exact ⟨b2.mono (by omega), Nat.le_trans (getD_len (by decide +kernel)) (by decide)⟩
  simp only [h0, if_false]
  by_cases h1 : c.1 = 2
  · simp only [h1, if_true]
    obtain ⟨b2, p0, p1⟩ := draw_ok (size := 3) b1 (by decide)
    obtain ⟨b3, l3⟩ := figM_ok (n := 59 + (draw c.2 3).1.toNat) b2 (by omega)
    obtain ⟨b4, q0, q1⟩ := draw_ok (size := 3) b3 (by decide)
    obtain ⟨b5, l5⟩ := figM_ok (n := 59 + (draw (figM (draw c.2 3).2 (59 + (draw c.2 3).1.toNat)).2 3).1.toNat) b4 (by omega)
    refine ⟨b5.mono (by omega), ?_⟩
    rw [slen, slen]
    omega
  simp only [h1, if_false]
  by_cases h2 : c.1 = 3
  · simp only [h2, if_true]
    obtain ⟨b2, p0, p1⟩ := draw_ok (size := 2) b1 (by decide)
    obtain ⟨b3, l3⟩ := figM_ok (n := 60 + (draw c.2 2).1.toNat) b2 (by omega)
    exact ⟨b3.mono (by omega), by omega⟩
  simp only [h2, if_false]
  by_cases h3 : c.1 = 4
  · simp only [h3, if_true]
    obtain ⟨b2, p0, p1⟩ := draw_ok (size := 3) b1 (by decide)
    obtain ⟨b3, l3⟩ := figM_ok (n := 1 + (draw c.2 3).1.toNat) b2 (by omega)
    obtain ⟨b4, q0, q1⟩ := draw_ok (size := 8) b3 (by decide)
    refine ⟨b4.mono (by omega), ?_⟩
    have := getD_len (l := nearB) (i := (draw (figM (draw c.2 3).2 (1 + (draw c.2 3).1.toNat)).2 8).1.toNat) (by decide +kernel)
    rw [slen, slen]
    omega
  simp only [h3, if_false]
  obtain ⟨b2, p0, p1⟩ := draw_ok (size := 50) b1 (by decide)
  obtain ⟨b3, q0, q1⟩ := draw_ok (size := 50) b2 (by decide)
  refine ⟨b3.mono (by omega), ?_⟩
  have l1 := tI_len (i := (draw c.2 50).1) p0 (by omega)
  have l2 := tI_len (i := (draw (draw c.2 50).2 50).1) q0 (by omega)
  rw [slen, slen]
  omega
def cNear : Ct := fun ds M R _ => ∃ (p : Addr) (b : Bx) (M0 : Mst), ds = [.raw (.ref p)] ∧ M = (p, .l b.cells) :: M0 ∧ Bd 999000 b ∧ R (.str (nearM b).1) ((p, .l (nearM b).2.cells) :: M0)
section
variable {P : Program} {w : World} {K : PySem.W.Frag} {mg : Str → Option Value} {base : Heap} {cl : Nat → Addr}
theorem b_Lfigures (B : Bl mg) (hdig : base.NoDigits) (D : Df P w K mg base "_law_draw" 1 cDraw) : BodyOk P w K mg base N_Lfigures ["box", "size"] "_law_figures" s_Lfigures 1 cFig := by
  intro f cdv A outer s H E ds M R Z hr hl ⟨p, b, n, M0, e, eM, hb, h1, h2, hR⟩
  subst e eM
  obtain ⟨b1, p0, p1⟩ := draw_ok (size := 9) hb (by decide)
  obtain ⟨b2, q0, q1⟩ := draw_ok (size := 10) b1 (by decide)
  have big : ∀ {i : Int}, 0 ≤ i → i < 100 → i.natAbs < 10 ^ 4300 := fun h0 h => Nat.lt_of_lt_of_le (show _ < 10 ^ 2 by omega) (Nat.pow_le_pow_right (by decide) (by decide))
  have l1 := tI_len (i := 1 + (draw b 9).1) (by omega) (by omega)
  have l2 := tI_len (i := (draw (draw b 9).2 10).1) q0 (by omega)
  have hm : (tI (draw (draw b 9).2 10).1).length * (n - 1) ≤ 3 * 100 := Nat.mul_le_mul l2 (by omega)
  refine ss_cons (s1_set 2 sc_Lfigures.nd (ex_strI rfl hdig B.str (ex_bin ex_int (ex_draw D hr hb.n10 (ex_nm 0) ex_int) o_add) (big (by omega) (by omega))) ?_)
  refine ss_one (s1_ret (ex_bin (ex_nm 2) (ex_bin (ex_strI rfl hdig B.str (ex_draw D hr b1.n10 (ex_nm 0) ex_int) (big q0 (by omega))) (EE.is (ex_bin (ex_nm 1) ex_int o_sub) (show _ = Dt.int (((n - 1 : Nat)) : Int) by congr 1; omega)) (o_mulS (z := tI (draw (draw b 9).2 10).1) (by omega) (by omega) (by omega))) (o_catS (s := tI (1 + (draw b 9).1)) (by rw [mulS_len]; omega))) (.of hR))
end
end K1

set_option Elab.async false
set_option linter.all false
set_option maxRecDepth 100000
set_option maxHeartbeats 4000000
set_option exponentiation.threshold 100000
/-! K14: _law_near. -/
namespace K1
open PySem PySem.Spec PyProof.Rows L2 HM TX XN
section
variable {X : Cx} {e1 e2 : Expr} {G : List (Option Dt)} {M0 M2 : Mst} {pos p1 p2 : Pos} {p : Addr} {b : Bx} {i : Nat}
/-- _law_of(box, [texts]) -/
theorem ex_ofS {l : List Str} {n : Int} (D : Df X.prog X.w X.K X.mg X.base "_law_of" 2 cOf) (hr : Room i X.A) (hb : Bd 1000000 b) (he1 : EX X e1 G ((p, .l b.cells) :: M0) (.raw (.ref p)) ((p, .l b.cells) :: M0)) (he2 : EX X e2 G ((p, .l b.cells) :: M0) (.lst (l.map Dt.str)) ((p, .l b.cells) :: M0)) (hn : (l.length : Int) = n) (hl0 : 0 < l.length) (hl9 : l.length ≤ 1000)
    (hi : 2 ≤ i := by decide) (hgl : Gl X "_law_of" := by rfl) (hs1 : starEach [e1, e2] X.env = (false, eval e1 X.env) :: starEach [e2] X.env := by rfl) (hs2 : starEach [e2] X.env = (false, eval e2 X.env) :: starEach [] X.env := by rfl) (hpl : (backTo p2 (starEach [e2] X.env)).any (·.1) = false := by rfl) :
    EX X (.Call (.Name "_law_of" p1) [e1, e2] [] p2) G ((p, .l b.cells) :: M0) (.str (l.getD (draw b n).1.toNat "")) ((p, .l (draw b n).2.cells) :: M0) := by
  have hml : (((l.map Dt.str).length : Nat) : Int) = n := by rw [List.length_map]; exact hn
  refine ex_call D hr (ax_cons he1 (ax_cons he2 ax_nil hs2) hs1) ⟨p, b, l.map Dt.str, M0, _, rfl, rfl, hb, by rw [List.length_map]; exact hl0, by rw [List.length_map]; omega, ?_, by rw [hml]; exact ⟨rfl, rfl⟩⟩ rfl hi hgl (by decide) hs1 hpl
  have d := draw_ok (size := n) hb (by omega)
  have hlt : (draw b n).1.toNat < l.length := by omega
  rw [hml, List.getElem?_map, List.getD_eq_getElem?_getD, List.getElem?_eq_getElem hlt]
  rfl
/-- _law_figures(box, e) -/
theorem ex_fig {b' : Bx} {n : Nat} (D : Df X.prog X.w X.K X.mg X.base "_law_figures" 2 cFig) (hr : Room i X.A) (hb : Bd 999900 b') (he1 : EX X e1 G ((p, .l b.cells) :: M0) (.raw (.ref p)) ((p, .l b.cells) :: M0)) (he2 : EX X e2 G ((p, .l b.cells) :: M0) (.int (n : Int)) ((p, .l b'.cells) :: M0)) (h1 : 1 ≤ n) (h2 : n ≤ 100)
    (hi : 2 ≤ i := by decide) (hgl : Gl X "_law_figures" := by rfl) (hs1 : starEach [e1, e2] X.env = (false, eval e1 X.env) :: starEach [e2] X.env := by rfl) (hs2 : starEach [e2] X.env = (false, eval e2 X.env) :: starEach [] X.env := by rfl) (hpl : (backTo p2 (starEach [e2] X.env)).any (·.1) = false := by rfl) :
    EX X (.Call (.Name "_law_figures" p1) [e1, e2] [] p2) G ((p, .l b.cells) :: M0) (.str (figM b' n).1) ((p, .l (figM b' n).2.cells) :: M0) :=
  ex_call D hr (ax_cons he1 (ax_cons he2 ax_nil hs2) hs1) ⟨p, b', n, M0, rfl, rfl, hb, h1, h2, rfl, rfl⟩ rfl hi hgl (by decide) hs1 hpl
end
section
variable {P : Program} {w : World} {K : PySem.W.Frag} {mg : Str → Option Value} {base : Heap} {cl : Nat → Addr}
theorem addNat {n : Nat} {i : Int} (h : 0 ≤ i) : Dt.int ((n : Int) + i) = Dt.int ((n + i.toNat : Nat) : Int) := by congr 1; omega
theorem b_Lnear (B : Bl mg) (hdig : base.NoDigits) (D : Df P w K mg base "_law_draw" 1 cDraw) (Df2 : Df P w K mg base "_law_figures" 2 cFig) (Do : Df P w K mg base "_law_of" 2 cOf) : BodyOk P w K mg base N_Lnear ["box"] "_law_near" s_Lnear 2 cNear := by
  intro f cdv A outer s H E ds M R Z hr hl ⟨p, b, M0, e, eM, hb, hR⟩
  subst e eM
  have ls : slS.length = 1 := rfl
  have big : ∀ {i : Int}, 0 ≤ i → i < 100 → i.natAbs < 10 ^ 4300 := fun h0 h => Nat.lt_of_lt_of_le (show _ < 10 ^ 2 by omega) (Nat.pow_le_pow_right (by decide) (by decide))
  obtain ⟨b1, o0, o1⟩ := draw_ok (size := 6) hb (by decide)
  unfold nearM at hR
  refine ss_cons (s1_set 1 sc_Lnear.nd (ex_draw D hr hb.n10 (ex_nm 0) ex_int) ?_)
  generalize draw b 6 = c at hR b1 o0 o1
  refine ss_cons (s1_if (tx_cp (ex_nm 1) ex_int c_lt) (fun h => ?_) fun h => ss_nil ?_)
  · rw [if_pos (of_decide_eq_true h)] at hR
    refine ss_one (s1_ret (ex_ofS (l := nearA) (n := 38) Do hr b1.n10 (ex_nm 0) (EE.is (ex_ls (ax_cons ex_str <| ax_cons ex_str <| ax_cons ex_str <| ax_cons ex_str <| ax_cons ex_str <| ax_cons ex_str <| ax_cons ex_str <| ax_cons ex_str <| ax_cons ex_str <| ax_cons ex_str <|
      ax_cons ex_str <| ax_cons ex_str <| ax_cons ex_str <| ax_cons ex_str <| ax_cons ex_str <| ax_cons ex_str <| ax_cons ex_str <| ax_cons ex_str <| ax_cons ex_str <| ax_cons ex_str <|
      ax_cons ex_str <| ax_cons ex_str <| ax_cons ex_str <| ax_cons ex_str <| ax_cons ex_str <| ax_cons ex_str <| ax_cons ex_str <| ax_cons ex_str <| ax_cons ex_str <| ax_cons ex_str <|
      ax_cons ex_str <| ax_cons ex_str <| ax_cons ex_str <| ax_cons ex_str <| ax_cons ex_str <| ax_cons ex_str <| ax_cons ex_str <| ax_cons ex_str ax_nil)) rfl) rfl (by decide) (by decide)) (.of hR))
  rw [if_neg (of_decide_eq_false h)] at hR
  refine ss_cons (s1_if (tx_cp (ex_nm 1) ex_int c_eqI) (fun h => ?_) fun h => ss_nil ?_)
  · rw [if_pos (of_decide_eq_true h)] at hR
    obtain ⟨b2, p0, p1⟩ := draw_ok (size := 3) b1 (by decide)
    obtain ⟨b3, l3⟩ := figM_ok (n := 59 + (draw c.2 3).1.toNat) b2 (by omega)
    obtain ⟨b4, q0, q1⟩ := draw_ok (size := 3) b3 (by decide)
    obtain ⟨b5, l5⟩ := figM_ok (n := 59 + (draw (figM (draw c.2 3).2 (59 + (draw c.2 3).1.toNat)).2 3).1.toNat) b4 (by omega)
    exact ss_one (s1_ret (ex_bin (ex_bin (ex_fig Df2 hr (b2.mono (by omega)) (ex_nm 0) (EE.is (ex_bin ex_int (ex_draw D hr b1.n10 (ex_nm 0) ex_int) o_add) (addNat (n := 59) p0)) (by omega) (by omega)) ex_str (o_catS (t := slS) (by omega))) (ex_fig Df2 hr (b4.mono (by omega)) (ex_nm 0) (EE.is (ex_bin ex_int (ex_draw D hr b3.n10 (ex_nm 0) ex_int) o_add) (addNat (n := 59) q0)) (by omega) (by omega)) (o_catS (by rw [slen]; omega))) (.of hR))
  rw [if_neg (of_decide_eq_false h)] at hR
  refine ss_cons (s1_if (tx_cp (ex_nm 1) ex_int c_eqI) (fun h => ?_) fun h => ss_nil ?_)
  · rw [if_pos (of_decide_eq_true h)] at hR
    obtain ⟨b2, p0, p1⟩ := draw_ok (size := 2) b1 (by decide)
    exact ss_one (s1_ret (ex_fig Df2 hr (b2.mono (by omega)) (ex_nm 0) (EE.is (ex_bin ex_int (ex_draw D hr b1.n10 (ex_nm 0) ex_int) o_add) (addNat (n := 60) p0)) (by omega) (by omega)) (.of hR))
  rw [if_neg (of_decide_eq_false h)] at hR
  refine ss_cons (s1_if (tx_cp (ex_nm 1) ex_int c_eqI) (fun h => ?_) fun h => ss_nil ?_)
  · rw [if_pos (of_decide_eq_true h)] at hR
    obtain ⟨b2, p0, p1⟩ := draw_ok (size := 3) b1 (by decide)
    obtain ⟨b3, l3⟩ := figM_ok (n := 1 + (draw c.2 3).1.toNat) b2 (by omega)
    have := getD_len (l := nearB) (i := (draw (figM (draw c.2 3).2 (1 + (draw c.2 3).1.toNat)).2 8).1.toNat) (by decide +kernel)
    exact ss_one (s1_ret (ex_bin (ex_bin (ex_fig Df2 hr (b2.mono (by omega)) (ex_nm 0) (EE.is (ex_bin ex_int (ex_draw D hr b1.n10 (ex_nm 0) ex_int) o_add) (addNat (n := 1) p0)) (by omega) (by omega)) ex_str (o_catS (t := slS) (by omega))) (ex_ofS (l := nearB) (n := 8) Do hr b3.n10 (ex_nm 0) (EE.is (ex_ls (ax_cons ex_str <| ax_cons ex_str <| ax_cons ex_str <| ax_cons ex_str <| ax_cons ex_str <| ax_cons ex_str <| ax_cons ex_str <| ax_cons ex_str ax_nil)) rfl) rfl (by decide) (by decide)) (o_catS (by rw [slen]; omega))) (.of hR))
  rw [if_neg (of_decide_eq_false h)] at hR
  obtain ⟨b2, p0, p1⟩ := draw_ok (size := 50) b1 (by decide)
  obtain ⟨b3, q0, q1⟩ := draw_ok (size := 50) b2 (by decide)
  have l1 := tI_len (i := (draw c.2 50).1) p0 (by omega)
  have l2 := tI_len (i := (draw (draw c.2 50).2 50).1) q0 (by omega)
  exact ss_one (s1_ret (ex_bin (ex_bin (ex_strI rfl hdig B.str (ex_draw D hr b1.n10 (ex_nm 0) ex_int) (big p0 (by omega))) ex_str (o_catS (s := tI (draw c.2 50).1) (t := slS) (by omega))) (ex_strI rfl hdig B.str (ex_draw D hr b2.n10 (ex_nm 0) ex_int) (big q0 (by omega))) (o_catS (t := tI (draw (draw c.2 50).2 50).1) (by rw [slen]; omega))) (.of hR))
end
end K1

set_option Elab.async false
set_option linter.all false
set_option maxRecDepth 100000
set_option maxHeartbeats 4000000
set_option exponentiation.threshold 100000
/-! K15: _law_box: the list that it hands back is to change. -/
namespace K1
open PySem PySem.Spec PyProof.Rows L2 HM TX XN
def mixF (m item : Int) : Int := (m * 48611 + item % 2147483587 + 379) % 2147483579
def mixAll (l : List Int) : Int := l.foldl mixF 17794
def box0 (l : List Int) : Bx := ⟨l.take 63, 0, 0, mixAll (l.take 63), 0, 0⟩
theorem mixAll_ok : ∀ (l : List Int) (m : Int), 0 ≤ m → m < 2147483579 → 0 ≤ l.foldl mixF m ∧ l.foldl mixF m < 2147483579
  | [], m, h0, h1 => ⟨h0, h1⟩
  | a :: l, m, _, _ => mixAll_ok l _ (Int.emod_nonneg _ (by decide)) (Int.emod_lt_of_pos _ (by decide))
theorem box0_ok (l : List Int) : Bd 0 (box0 l) :=
  let h := mixAll_ok (l.take 63) 17794 (by decide) (by decide)
  ⟨⟨Int.le_refl _, h.1, h.2⟩, Int.le_refl _, Int.le_refl _⟩
def spBox (K : PySem.W.Frag) : Sp := fun vs H Q E => ∃ (F : Hp) (M : Mst) (l : List Int), Sta K F M H ∧ Reps K F [.lst (l.map Dt.int)] vs ∧
  ∀ (p : Addr) (F' H' : Hp), p ∉ dom M → H p = none → Gr (dom M) F H F' H' → Sta K F' ((p, .l (box0 l).cells) :: M) H' → Q (.ref p) H'
section
variable {X : Cx} {es : List Expr} {G : List (Option Dt)} {M M1 : Mst} {ds : List Dt} {pos lp : Pos} {T : Po}
/-- return [..], a list that is to change -/
theorem s1_retL (ha : AX X es G M ds M1) (h : ∀ p, p ∉ dom M → T.rt (.raw (.ref p)) ((p, .l ds) :: M1)) (hl : ds.length ≤ 100000) : S1 X (.Return (some (.List es lp)) pos) G M T :=
  fun B σ H D hD hE ⟨F, g0, s0, r0, m0⟩ => w_s (ps_ret (pe_lst pa_w)) (ha.2 σ F H _ r0 s0 fun vs F1 H1 g1 s1 r1 => ⟨by rw [r1.len]; exact Nat.le_trans hl (by decide), fun p hp => by
    have hnp := s1.fresh hp
    rw [ha.1] at hnp
    have g01 := g0.trans g1 m0
    refine hD.rt _ _ _ F1 _ (h p hnp) (fun a ha' => ?_) (g01.trans (m' := dom M) (gr_newM hp) (fun a hm => m0 a hm)) (s1.newM hp r1) rfl
    rcases List.mem_cons.mp ha' with rfl | ha'
    · exact .inr (g01.free hp)
    · exact m0 a (ha.1 ▸ ha')⟩)
end
section
variable {P : Program} {w : World} {K : PySem.W.Frag} {mg : Str → Option Value} {base : Heap} {f : Addr} {fd : FuncData} {x : Str}
theorem box_body (B : Bl mg) {cdv : Value} {A : Around} {outer : List Env} {s : Shared} {H : Hp} {E : XK} {l : List Int} {M : Mst} {T : Po} (hT : ∀ p, p ∉ dom M → T.rt (.raw (.ref p)) ((p, .l (box0 l).cells) :: M)) :
    SS (Xd P w K mg base N_Lbox "_law_box" s_Lbox f cdv A outer s H E) (defBody s_Lbox) [some (.lst (l.map Dt.int)), none, none] M T := by
  refine ss_cons (s1_set 1 sc_Lbox.nd ex_int ?_)
  refine ss_cons (s1_for (fun i G' M' => M' = M ∧ ∃ (m : Int) (o : Option Dt), G' = [some (.lst (l.map Dt.int)), some (.int m), o] ∧ m = mixAll ((l.take 63).take i) ∧ 0 ≤ m ∧ m < 2147483579) (ix_lst (ex_slL (n := 63) (ex_nm 0) (px_some ex_int))) rfl ⟨rfl, 17794, none, rfl, rfl, by decide, by decide⟩ ?_ ?_ (fun i G' M' h => by rw [h.1]) PassesOwn.leaving)
  · rintro i d G' M' hd ⟨rfl, m, o, rfl, hm, m0, m1⟩
    rw [← List.map_take] at hd
    obtain ⟨a, ha, rfl⟩ := get_map hd
    have m5 : 0 ≤ a % 2147483587 ∧ a % 2147483587 < 2147483587 := ⟨Int.emod_nonneg _ (by decide), Int.emod_lt_of_pos _ (by decide)⟩
    refine ⟨_, gx_nm 2 sc_Lbox.nd, ?_⟩
    refine ss_one (s1_set 1 sc_Lbox.nd (d := .int (mixF m a)) (ex_bin (ex_intI B.int (ex_bin (ex_bin (ex_bin (ex_nm 1) ex_int (o_mul (mulBig (by omega) (by decide)))) (ex_bin (ex_intI B.int (ex_nm 2)) ex_int (o_mod (by decide))) o_add) ex_int o_add)) ex_int (o_mod (by decide))) ?_)
    refine ⟨rfl, _, some (.int a), rfl, ?_, Int.emod_nonneg _ (by decide), Int.emod_lt_of_pos _ (by decide)⟩
    rw [take_snoc ha, hm]
    unfold mixAll
    rw [List.foldl_append]
    rfl
  · rintro G' M' ⟨rfl, m, o, rfl, hm, m0, m1⟩
    have e : (l.take 63).take ((l.map Dt.int).take 63).length = l.take 63 := by
      apply List.take_of_length_le
      simp
    rw [e] at hm
    subst hm
    refine ss_one (s1_retL (ds := (box0 l).cells) (ax_cons (EE.is (ex_listL B.list (ex_slL (n := 63) (ex_nm 0) (px_some ex_int))) (by rw [← List.map_take]; rfl)) (ax_cons ex_int (ax_cons ex_int (ax_cons (ex_nm 1) (ax_cons ex_int (ax_cons ex_int ax_nil)))))) (fun p hp => hT p hp) (show 6 ≤ 100000 by decide))
theorem fn_box (B : Bl mg) (F : Fun K x "_law_box" s_Lbox f fd) (hb : Binds K fd ["script"] []) : FnR P w K mg base (L2N.CX P w) 1 f (spBox K) := by
  have G : FnOk P w K mg base (L2N.CX P w) 1 f fd ["script"] (spBox K) := by
    obtain ⟨oc, od, kV, doc, pm, an, cdv, ct, osl, rfl, lk, hcd⟩ := F.ex
    refine fn_of lk hcd sc_Lbox (fun vs H Q E hs => ?_) fun A outer s H vs Q E hr hs => ⟨_, pss_w, ?_⟩
    · obtain ⟨F', M, l, _, r, _⟩ := hs
      exact r.len
    · obtain ⟨F', M, l, s0, r, hq⟩ := hs
      have z := box_body (P := P) (w := w) (K := K) (base := base) (f := f) (cdv := cdv) (A := A) (outer := outer) (s := s) (H := H) (E := E) (l := l) (M := M) (T := { nx := fun _ _ => False, rt := fun d M' => ∃ p, p ∉ dom M ∧ d = .raw (.ref p) ∧ M' = (p, .l (box0 l).cells) :: M }) B (fun p hp => ⟨p, hp, rfl, rfl⟩) ⟨F', H, dom M⟩ (L2.start N_Lbox vs) H { nx := fun _ H' => Q .non H', rt := Q }
      refine z ⟨fun _ _ _ _ z _ => z.elim, fun d M' v F1 H1 ⟨p, hnp, e1, e2⟩ hm g s1 rv => ?_, fun _ _ _ _ z _ => z.elim, fun _ _ _ _ z _ => z.elim⟩ ?_ ⟨F', Gr.refl _ _ _, s0, ?_, fun a ha => .inl ha⟩
      · subst e1 e2
        have rv : v = .ref p := rv
        subst rv
        have hp : H p = none := (hm p List.mem_cons_self).elim (fun z => absurd z hnp) id
        exact hq p F1 H1 hnp hp g s1
      · exact ⟨fun cls d _ H => E cls d H, L2N.takes_of rfl rfl rfl rfl, fun _ _ _ _ _ _ _ _ _ _ z => z.elim⟩
      · unfold L2.start
        rw [r.len]
        exact RepS.start r _
  intro A outer s H us vs Q E hr e0 rv hs
  exact (FnOk.raw (dvs := []) G hb .nil) A outer s H us vs Q E hr e0 rv (by show spBox K (vs ++ []) H Q E; rw [List.append_nil]; exact hs)
end
/-- the def of the name -/
def DfBox (P : Program) (w : World) (K : PySem.W.Frag) (mg : Str → Option Value) (base : Heap) : Prop := ∃ f : Addr, mg "_law_box" = some (.ref f) ∧ PySem.W.keepIn K (.ref f) = true ∧ FnR P w K mg base (L2N.CX P w) 1 f (spBox K)
/-- box = _law_box(e) -/
theorem s1_box {X : Cx} {e : Expr} {G : List (Option Dt)} {M : Mst} {T : Po} {l : List Int} {p1 p2 tpos pos : Pos} {x : Str} {i : Nat} (j : Nat) (D : DfBox X.prog X.w X.K X.mg X.base) (hr : Room i X.A) (hN : X.N.Nodup) (he : EX X e G M (.lst (l.map Dt.int)) M) (h : ∀ p, p ∉ dom M → T.nx (G.set j (some (.raw (.ref p)))) ((p, .l (box0 l).cells) :: M))
    (hi : 1 ≤ i := by decide) (hij : X.N[j]? = some x := by rfl) (hx : Loc X.env.scope x := by first | exact Or.inl rfl | exact Or.inr rfl) (hg : Gl X "_law_box" := by rfl) (hs : swapsWith (.Call (.Name "_law_box" p1) [e] [] p2) (some (.Name x tpos)) pos.line X.env = pure false := by rfl) (hf : X.fn x = true ∨ X.env.scope.names.lookup x = some .local := by first | exact .inl rfl | exact .inr rfl | assumption)
    (hst : starEach [e] X.env = (false, eval e X.env) :: starEach [] X.env := by rfl) : S1 X (.Assign [.Name x tpos] (.Call (.Name "_law_box" p1) [e] [] p2) pos) G M T := fun B σ H D' hD hE ⟨F, g0, s0, r0, m0⟩ => by
  obtain ⟨f, hm, hk, FR⟩ := D
  refine w_s (ps_set hN hij hx (pe_callR (E := fun _ _ _ => False) FR (hr.mono hi) hg hm hk passN (pa_cons pe_w pa_nil hst) (by decide) hst rfl) hs hf) (he.2 σ F H _ r0 s0 fun v F1 H1 g1 s1 r1 => ⟨F1, M, l, s1, Reps.one r1, fun p F2 H2 hnp hp g2 s2 => ?_⟩)
  have g12 := g1.trans' g2
  refine hD.nx _ _ _ _ (h p hnp) ⟨F2, g0.trans g12 m0, s2, (r0.mono g12.sub).set (d := .raw (.ref p)) rfl j, fun a ha => ?_⟩
  rcases List.mem_cons.mp ha with rfl | ha
  · exact .inr ((g0.trans g1 m0).free hp)
  · exact m0 a ha
end K1

set_option Elab.async false
set_option linter.all false
set_option maxRecDepth 100000
set_option maxHeartbeats 4000000
/-! DL: comprehensions over dicts (none, one key). -/
namespace HM
open PySem PySem.Spec PyProof.Rows L2
section
variable {K : PySem.W.Frag} {F H H' : Hp} {M : Mst} {d D : Addr} {u : HO} {od : Obj} {ys : List V}
theorem lock_end (s : Sta K F M H) (hd : H d = some u) (hD : upd H d (.frz od u) D = none) (hx : ∀ a o, upd (upd H d (.frz od u)) D (.lst ys) a = some o → H' a = some o) :
    D ≠ d ∧ H D = none ∧ H' d = some (.frz od u) ∧ Gr (dom M) F H (upd F D (.lst ys)) (upd H' d u) ∧ Sta K (upd F D (.lst ys)) M (upd H' d u) := by
  have hne : D ≠ d := fun z => by
    rw [z, upd_same] at hD
    cases hD
  have hHD : H D = none := by rw [upd_ne hne] at hD; exact hD
  have hFD : F D = none := s.free hHD
  have ext : ∀ a o, H a = some o → upd H' d u a = some o := fun a o h => by
    by_cases ha : a = d
    · subst ha
      rw [upd_same, ← h, hd]
    · rw [upd_ne ha]
      refine hx a o ?_
      rw [upd_ne (fun z => by rw [z, hHD] at h; cases h), upd_ne ha]
      exact h
  refine ⟨hne, hHD, hx d _ (by rw [upd_ne (Ne.symm hne), upd_same]), ⟨fun a o _ h => ext a o h, sub_upd hFD, fun a xs h h' => ?_, fun a _ h => ?_⟩, ⟨fun a o h => ?_, fun q hq => ?_, fun q hq => ?_, s.nd⟩⟩
  · by_cases ha : a = D
    · subst ha
      exact .inl hHD
    · rw [upd_ne ha, h'] at h
      cases h
  · cases e : H a with
    | none => exact absurd e h
    | some o =>
      rw [ext a o e]
      simp
  · by_cases ha : a = D
    · subst ha
      rw [upd_same] at h
      rw [upd_ne hne]
      exact hx a o (by rw [upd_same]; exact h)
    · rw [upd_ne ha] at h
      exact ext a o (s.sub a o h)
  · exact MuOk.ext (sub_upd hFD) (fun b o h => ext b o h) (s.mt q hq)
  · rw [upd_ne (fun z => MuOk.there (s.mt q hq) (by rw [z]; exact hHD))]
    exact s.off q hq
end
theorem call_reprS' {X : Cx} : CallR X (.builtin "repr") (fun xs H Q => ∃ z, xs = [.str z] ∧ (reprText z).length ≤ sizeLine ∧ Q (.str (reprText z)) H) := call_reprS
section
variable {X : Cx} {scope : Scope} {G : List (Option Dt)} {M : Mst} {pos px pk pr pc p1 p2 p3 : Pos} {x y : Str} {ks : List Str} {l : List Dt} {z : Str}
/-- [repr(x) for x in y] -/
theorem ex_lcRepr (i j : Nat) (hij : i ≠ j) (hc : X.calm = true) (hN : X.N.Nodup) (hG : G[j]? = some (some (.dic ks l))) (hil : i < G.length) (ok : BlkOk X.N X.env.scope scope [(x, i)]) (hks : ∀ k ∈ ks, (reprText k).length ≤ 1000) (hkl : ks.length ≤ 100) (hmr : X.mg "repr" = none) (hg : ∀ s H C cl fp, Gl (Xb X scope s H C cl fp) "repr" := by intro _ _ _ _ _; rfl)
    (hv : Vis X.env.scope y := by first | exact Or.inl rfl | exact Or.inr (Or.inl rfl) | exact Or.inr (Or.inr rfl)) (hdb : (y == ("__debug__" : Str)) = false := by decide) (hcd : (y == ("__classdict__" : Str)) = false := by decide) (hxd : (x == ("__debug__" : Str)) = false := by decide) (hxc : (x == ("__classdict__" : Str)) = false := by decide)
    (hx : ∀ s H C cl fp, Loc (Xb X scope s H C cl fp).env.scope x := by intro _ _ _ _ _; exact Or.inl rfl) (hf : ∀ s H C cl fp, (Xb X scope s H C cl fp).fn x = true ∨ (Xb X scope s H C cl fp).env.scope.names.lookup x = some .local := by intro _ _ _ _ _; exact Or.inr rfl)
    (hXi : X.N[i]? = some x := by rfl) (hXj : X.N[j]? = some y := by rfl) (hsw : ∀ u, foldedSetIterable (.Name y p1) X.env u = pure u := by intro _; rfl)
    (hst : ∀ s H C cl fp, starEach [.Name x pk] (Xb X scope s H C cl fp).env = (false, eval (.Name x pk) (Xb X scope s H C cl fp).env) :: starEach [] (Xb X scope s H C cl fp).env := by intro _ _ _ _ _; rfl) :
    EX X (.ListComp (.Call (.Name "repr" pr) [.Name x pk] [] pc) [⟨.Name x px, .Name y p1, [], 0⟩] scope pos) G M (.lst (ks.map fun k => .str (reprText k))) M := by
  have vx : ∀ s H C cl fp, Vis (Xb X scope s H C cl fp).env.scope x := fun s H C cl fp => by
    rcases hx s H C cl fp with h | h
    · exact .inl h
    · exact .inr (.inl h)
  refine EE.of (w_e (pe_lock (pe_lc (own := [(x, i)]) (wi := iKeys (tVar j)) (g := gName i) (tt := tYes) hc hN (pi_keys (pe_var hXj hv hdb hcd)) ok (fun s H C cl fp => pg_name (X := Xb X scope s H C cl fp) hN hXi (hx s H C cl fp) (hf s H C cl fp)) (fun s H C cl fp => pts_nil)
    (fun s H C cl fp => pe_callB (X := Xb X scope s H C cl fp) call_reprS (hg s H C cl fp) hmr (by decide +kernel) (pa_cons (pe_var (X := Xb X scope s H C cl fp) hXi (vx s H C cl fp) hxd hxc) pa_nil (hst s H C cl fp)) (by decide) (by decide) (hst s H C cl fp) rfl) hsw))) ⟨rfl, fun σ F H Q r s q => ?_⟩
  obtain ⟨v, hv1, a, vs, rfl, hF, hlen, rl⟩ := r.get j _ hG
  have hH := s.sub _ _ hF
  refine ⟨a, _, hH, trivial, fun od => ⟨.ref a, hv1, a, od, rfl, .inl ⟨_, upd_same, fun D hD => ?_⟩⟩⟩
  have kvl : ((ks.map Sum.inr).zip vs : List (Key × V)).length = ks.length := by rw [List.length_zip, List.length_map, ← hlen]; omega
  have hga : ∀ n : Nat, upd (upd H a (.frz od (.dK ((ks.map Sum.inr).zip vs)))) D (.lst ((ks.take n).map fun k => V.str (reprText k))) a = some (.frz od (.dK ((ks.map Sum.inr).zip vs))) := fun n => by
    have hne : D ≠ a := fun z => by rw [z, upd_same] at hD; cases hD
    rw [upd_ne (Ne.symm hne), upd_same]
  refine ⟨fun n m H' => m = ks.length - n ∧ n ≤ ks.length ∧ H' = upd (upd H a (.frz od (.dK ((ks.map Sum.inr).zip vs)))) D (.lst ((ks.take n).map fun k => V.str (reprText k))), ⟨ks.length, by omega, Nat.zero_le _, rfl⟩, ?_⟩
  rintro n m H' ⟨rfl, hn, rfl⟩
  by_cases hlt : n < ks.length
  · refine .inr ⟨⟨hga n, by rw [kvl]; exact hlt⟩, fun H' => H' = upd (upd H a (.frz od (.dK ((ks.map Sum.inr).zip vs)))) D (.lst ((ks.take (n + 1)).map fun k => V.str (reprText k))), fun H' hh => ⟨ks.length - (n + 1), by omega, rfl, hlt, hh⟩, fun u H' hy => ?_⟩
    obtain ⟨rfl, k, w, hk, rfl⟩ := hy
    have hk' : ks[n]? = some ks[n] := List.getElem?_eq_getElem hlt
    have ek : k = .inr ks[n] := by
      rw [List.getElem?_zip_eq_some] at hk
      have := hk.1
      rw [List.getElem?_map, hk'] at this
      exact (Option.some.inj this).symm
    subst ek
    refine ⟨(wipe_set List.mem_cons_self).trans wipe_wipe, ?_⟩
    unfold tYes
    dsimp only
    first | rw [if_pos rfl] | skip
    refine ⟨.str ks[n], ?_, ks[n], rfl, Nat.le_trans (hks _ (List.getElem_mem hlt)) (by decide), (ks.take n).map fun k => V.str (reprText k), upd_same, by rw [List.length_map, List.length_take, sizeLine_eq]; omega, ?_⟩
    · rw [← r.len] at hil
      rw [List.getElem?_set_self (by show i < (wipe σ [i]).length; rw [wipe_length]; exact hil)]
      rfl
    · rw [upd_upd, take_snoc hk', List.map_append]
      rfl
  · refine .inl ⟨⟨hga n, by rw [kvl]; omega⟩, ?_⟩
    have en : n = ks.length := by omega
    subst en
    obtain ⟨h1, h2, h3, h4, h5⟩ := lock_end (H' := upd (upd H a (.frz od (.dK ((ks.map Sum.inr).zip vs)))) D (.lst ((ks.take ks.length).map fun k => V.str (reprText k)))) s hH hD (fun _ _ h => h)
    refine ⟨h3, q _ _ _ h4 h5 ⟨D, _, rfl, SqL.of upd_same, ?_⟩⟩
    rw [List.take_length]
    have : (ks.map fun k => Dt.str (reprText k)) = (ks.map reprText).map Dt.str := by rw [List.map_map]; rfl
    rw [this]
    have : (ks.map fun k => V.str (reprText k)) = (ks.map reprText).map V.str := by rw [List.map_map]; rfl
    rw [this]
    exact Reps.strs _
/-- [x for x in y if not f(u[x], y[x])], where f tells that 1 and 1 are alike; the dict has one key, with 1, or none -/
theorem ex_lcDict {W : Ct} {n m : Nat} {fx u : Str} {p4 p5 p6 p7 p8 p9 pa : Pos} (i j ju : Nat) (hij : i ≠ j) (hju : i ≠ ju) (hc : X.calm = true) (hN : X.N.Nodup) (hG : G[j]? = some (some (.dic ks l))) (hGu : G[ju]? = some (some (.dic ks l))) (hil : i < G.length) (ok : BlkOk X.N X.env.scope scope [(x, i)])
    (hkl : (ks = [] ∧ l = []) ∨ ∃ z, ks = [z] ∧ l = [.int 1]) (Dl : Df X.prog X.w X.K X.mg X.base fx n W) (hr : Room m X.A) (hnm : n ≤ m) (hW : (∃ z, ks = [z]) → W [.int 1, .int 1] [] (fun d M' => d = .bl true ∧ M' = []) E00) (hg : ∀ s H C cl fp, Gl (Xb X scope s H C cl fp) fx := by intro _ _ _ _ _; rfl) (hfd : (fx == ("__debug__" : Str)) = false := by decide)
    (hv : Vis X.env.scope y := by first | exact Or.inl rfl | exact Or.inr (Or.inl rfl) | exact Or.inr (Or.inr rfl)) (hvy : ∀ s H C cl fp, Vis (Xb X scope s H C cl fp).env.scope y := by intro _ _ _ _ _; first | exact Or.inl rfl | exact Or.inr (Or.inl rfl) | exact Or.inr (Or.inr rfl)) (hvu : ∀ s H C cl fp, Vis (Xb X scope s H C cl fp).env.scope u := by intro _ _ _ _ _; first | exact Or.inl rfl | exact Or.inr (Or.inl rfl) | exact Or.inr (Or.inr rfl))
    (hdb : (y == ("__debug__" : Str)) = false := by decide) (hcd : (y == ("__classdict__" : Str)) = false := by decide) (hud : (u == ("__debug__" : Str)) = false := by decide) (huc : (u == ("__classdict__" : Str)) = false := by decide) (hxd : (x == ("__debug__" : Str)) = false := by decide) (hxc : (x == ("__classdict__" : Str)) = false := by decide)
    (hx : ∀ s H C cl fp, Loc (Xb X scope s H C cl fp).env.scope x := by intro _ _ _ _ _; exact Or.inl rfl) (hf : ∀ s H C cl fp, (Xb X scope s H C cl fp).fn x = true ∨ (Xb X scope s H C cl fp).env.scope.names.lookup x = some .local := by intro _ _ _ _ _; exact Or.inr rfl)
    (hXi : X.N[i]? = some x := by rfl) (hXj : X.N[j]? = some y := by rfl) (hXu : X.N[ju]? = some u := by rfl) (hsw : ∀ u, foldedSetIterable (.Name y p1) X.env u = pure u := by intro _; rfl)
    (hns1 : NoSl (.Name x p5) := by exact fun _ _ => rfl) (hns2 : NoSl (.Name x p8) := by exact fun _ _ => rfl)
    (hs1 : ∀ s H C cl fp, starEach [.Subscript (.Name u p4) (.Name x p5) p6, .Subscript (.Name y p7) (.Name x p8) p9] (Xb X scope s H C cl fp).env = (false, eval (.Subscript (.Name u p4) (.Name x p5) p6) (Xb X scope s H C cl fp).env) :: starEach [.Subscript (.Name y p7) (.Name x p8) p9] (Xb X scope s H C cl fp).env := by intro _ _ _ _ _; rfl)
    (hs2 : ∀ s H C cl fp, starEach [.Subscript (.Name y p7) (.Name x p8) p9] (Xb X scope s H C cl fp).env = (false, eval (.Subscript (.Name y p7) (.Name x p8) p9) (Xb X scope s H C cl fp).env) :: starEach [] (Xb X scope s H C cl fp).env := by intro _ _ _ _ _; rfl)
    (hpl : ∀ s H C cl fp, (backTo pc (starEach [.Subscript (.Name y p7) (.Name x p8) p9] (Xb X scope s H C cl fp).env)).any (·.1) = false := by intro _ _ _ _ _; rfl)
    (hval : ∀ s H C cl fp whole, isTrue (.Call (.Name fx pr) [.Subscript (.Name u p4) (.Name x p5) p6, .Subscript (.Name y p7) (.Name x p8) p9] [] pc) (Xb X scope s H C cl fp).env whole = (do let v ← whole; standAt (Expr.Call (.Name fx pr) [.Subscript (.Name u p4) (.Name x p5) p6, .Subscript (.Name y p7) (.Name x p8) p9] [] pc).pos; holding [v] (truthy v)) := by intro _ _ _ _ _ _; rfl) :
    EX X (.ListComp (.Name x pk) [⟨.Name x px, .Name y p1, [.UnaryOp .Not (.Call (.Name fx pr) [.Subscript (.Name u p4) (.Name x p5) p6, .Subscript (.Name y p7) (.Name x p8) p9] [] pc) pa], 0⟩] scope pos) G M (.lst []) M := by
  have vx : ∀ s H C cl fp, Vis (Xb X scope s H C cl fp).env.scope x := fun s H C cl fp => by
    rcases hx s H C cl fp with h | h
    · exact .inl h
    · exact .inr (.inl h)
  obtain ⟨ff, hm, hkf, FR⟩ := Dl
  have hu : X.A.units + 1 < cLine := by have := hr.un; omega
  refine EE.of (w_e (pe_lock (pe_lc (own := [(x, i)]) (wi := iKeys (tVar j)) (g := gName i) (tt := tAll X scope _) (te := tVar i) hc hN (pi_keys (pe_var hXj hv hdb hcd)) ok (fun s H C cl fp => pg_name (X := Xb X scope s H C cl fp) hN hXi (hx s H C cl fp) (hf s H C cl fp)) (fun s H C cl fp => pts_one ⟨fun pins s1 σ H1 Q I h => h s H C cl fp pins s1 I⟩)
    (fun s H C cl fp => pe_var (X := Xb X scope s H C cl fp) hXi (vx s H C cl fp) hxd hxc) hsw))) ⟨rfl, fun σ F H Q r s q => ?_⟩
  obtain ⟨v, hv1, a, vs, rfl, hF, hlen, rl⟩ := r.get j _ hG
  obtain ⟨vu, hvu1, au, vsu, rfl, hFu, hlenu, rlu⟩ := r.get ju _ hGu
  have hH := s.sub _ _ hF
  have hHu := s.sub _ _ hFu
  refine ⟨a, _, hH, trivial, fun od => ⟨.ref a, hv1, a, od, rfl, .inl ⟨_, upd_same, fun D hD => ?_⟩⟩⟩
  have kvl : ((ks.map Sum.inr).zip vs : List (Key × V)).length = ks.length := by rw [List.length_zip, List.length_map, ← hlen]; omega
  obtain ⟨H1, hH1⟩ : ∃ H1, H1 = upd (upd H a (.frz od (.dK ((ks.map Sum.inr).zip vs)))) D (.lst []) := ⟨_, rfl⟩
  have hne : D ≠ a := fun z => by rw [z, upd_same] at hD; cases hD
  have hga : H1 a = some (.frz od (.dK ((ks.map Sum.inr).zip vs))) := by rw [hH1, upd_ne (Ne.symm hne), upd_same]
  refine ⟨fun n m H' => m = ks.length - n ∧ n ≤ ks.length ∧ ∀ b o, H1 b = some o → H' b = some o, ⟨ks.length, by omega, Nat.zero_le _, fun b o h => by rw [← hH1]; exact h⟩, ?_⟩
  rintro n0 m0 H' ⟨rfl, hn, hx1⟩
  by_cases hlt : n0 < ks.length
  · refine .inr ⟨⟨hx1 _ _ hga, by rw [kvl]; exact hlt⟩, fun H' => ∀ b o, H1 b = some o → H' b = some o, fun H' hh => ⟨ks.length - (n0 + 1), by omega, rfl, hlt, hh⟩, fun w H' hy => ?_⟩
    obtain ⟨rfl, k, w, hk, rfl⟩ := hy
    rcases hkl with ⟨rfl, rfl⟩ | ⟨z, rfl, rfl⟩
    · exact absurd hlt (by simp)
    have hn0 : n0 = 0 := by
      have : n0 < 1 := hlt
      omega
    subst hn0
    obtain ⟨v1, r1, rfl, e1, e2⟩ := rl
    have e1 : v1 = .int 1 := e1
    have e2 : r1 = [] := e2
    subst e1 e2
    obtain ⟨v1, r1, rfl, e1, e2⟩ := rlu
    have e1 : v1 = .int 1 := e1
    have e2 : r1 = [] := e2
    subst e1 e2
    have hk2 : (Sum.inr z, V.int 1) = (k, w) := Option.some.inj hk
    obtain ⟨rfl, rfl⟩ := Prod.mk.inj hk2
    refine ⟨(wipe_set List.mem_cons_self).trans wipe_wipe, fun s1 H2 C cl fp => ?_⟩
    have hlσ : i < (wipe σ [i]).length := by rw [wipe_length, r.len]; exact hil
    have sx : ((wipe σ [i]).set i (some (kV (Sum.inr z))))[i]? = some (some (.str z)) := List.getElem?_set_self hlσ
    have so : ∀ {q : Nat} {v : V}, i ≠ q → σ[q]? = some (some v) → ((wipe σ [i]).set i (some (kV (Sum.inr z))))[q]? = some (some v) := fun {q v} hq h => by
      rw [List.getElem?_set_ne hq, wipe_get, if_neg (by simp; exact fun e => hq e.symm)]
      exact h
    refine w_t (pt_not (pt_val (pe_callR (X := Xb X scope s1 H2 C cl fp) (E := fun _ _ _ => False) FR (hr.mono hnm) (hg s1 H2 C cl fp) hm hkf passN (pa_cons (pe_dget (X := Xb X scope s1 H2 C cl fp) hu (pe_var (X := Xb X scope s1 H2 C cl fp) hXu (hvu s1 H2 C cl fp) hud huc) (pe_var (X := Xb X scope s1 H2 C cl fp) hXi (vx s1 H2 C cl fp) hxd hxc) hns1)
      (pa_cons (pe_dget (X := Xb X scope s1 H2 C cl fp) hu (pe_var (X := Xb X scope s1 H2 C cl fp) hXj (hvy s1 H2 C cl fp) hdb hcd) (pe_var (X := Xb X scope s1 H2 C cl fp) hXi (vx s1 H2 C cl fp) hxd hxc) hns2) pa_nil (hs2 s1 H2 C cl fp)) (hs1 s1 H2 C cl fp)) hfd (hs1 s1 H2 C cl fp) (hpl s1 H2 C cl fp)) (hval s1 H2 C cl fp))) ?_
    have rdu : Rd H' au (.dK (([z].map Sum.inr).zip [V.int 1])) := by
      by_cases e : au = a
      · subst e
        exact .inr ⟨od, hx1 _ _ hga⟩
      · refine .inl (hx1 _ _ ?_)
        rw [hH1, upd_ne (fun e2 => by
          rw [← e2, upd_ne e, hHu] at hD
          cases hD), upd_ne e]
        exact hHu
    have vv : valV (([z].map Sum.inr).zip [V.int 1] : List (Key × V)) (.inr z) = some (.int 1) := by
      show ((([(Sum.inr z, V.int 1)] : List (Key × V)).find? fun kv => decide (kv.1 = .inr z)).map (·.2)) = _
      simp
    refine ⟨_, so hju hvu1, _, sx, au, .int 1, rfl, .inl ⟨_, .inr z, rdu, rfl, vv.symm⟩, _, so hij hv1, _, sx, a, .int 1, rfl, .inl ⟨_, .inr z, .inr ⟨od, hx1 _ _ hga⟩, rfl, vv.symm⟩, ?_⟩
    refine ⟨fun _ => none, [], [.int 1, .int 1], _, _, ⟨(by intro a o z; cases z), (by intro p hp; cases hp), (by intro p hp; cases hp), List.nodup_nil⟩, ⟨_, _, rfl, rfl, _, _, rfl, rfl, rfl⟩, hW ⟨z, rfl⟩, ?_, fun _ _ _ _ _ _ _ _ z => z.elim⟩
    rintro d' M' v' F' H3 ⟨rfl, rfl⟩ _ g s3 rv
    have rv : v' = .bl true := rv
    subst rv
    refine ⟨true, rfl, ?_⟩
    dsimp only
    first | rw [if_neg (by decide)] | skip
    exact fun b o h => g.ex b o (by simp) (hx1 b o h)
  · refine .inl ⟨⟨hx1 _ _ hga, by rw [kvl]; omega⟩, ?_⟩
    obtain ⟨h1, h2, h3, h4, h5⟩ := lock_end (H' := H') (ys := []) s hH hD (fun b o h => hx1 b o (by rw [hH1]; exact h))
    exact ⟨h3, q _ _ _ h4 h5 ⟨D, [], rfl, SqL.of upd_same, rfl⟩⟩
end
end HM

set_option Elab.async false
set_option linter.all false
set_option maxRecDepth 100000
set_option maxHeartbeats 4000000
set_option exponentiation.threshold 100000
/-! K16: _law_like on equal data. -/
namespace K1
open PySem PySem.Spec PyProof.Rows L2 HM TX XN
/-- data of depth below n that _law_like can walk -/
def dp : Nat → Dt → Bool
  | 0, _ => false
  | n + 1, d => match d with
    | .non => true
    | .bl _ => true
    | .int _ => true
    | .str _ => true
    | .tup l => l.all (dp n) && decide (l.length ≤ 1000)
    | .lst l => l.all (dp n) && decide (l.length ≤ 1000)
    | .dic [] [] => true
    | .dic [k] [.int 1] => decide (k = "a") && dp n (.int 1)
    | _ => false
theorem dp_kn : ∀ {n : Nat} {d : Dt}, dp n d = true → d.kn = true
  | 0, _, h => by cases h
  | n + 1, d, h => by cases d <;> first | rfl | cases h
theorem dp_dic {n : Nat} {ks : List Str} {l : List Dt} (h : dp (n + 1) (.dic ks l) = true) : (ks = [] ∧ l = []) ∨ (ks = [("a" : Str)] ∧ l = [.int 1] ∧ dp n (.int 1) = true) := by
  unfold dp at h
  split at h <;> first | (cases h; done) | skip
  all_goals rename_i e
  all_goals cases e
  · exact .inl ⟨rfl, rfl⟩
  · obtain ⟨h1, h2⟩ := Bool.and_eq_true_iff.mp h
    rw [of_decide_eq_true h1]
    exact .inr ⟨rfl, rfl, h2⟩
def cLike (n : Nat) : Ct := fun ds M R _ => ∃ d, ds = [d, d] ∧ dp n d = true ∧ R (.bl true) M
theorem sorted0 (ys : List Str) (h : ys.Perm []) (_ : sortedS ys = true) : ys = [] := List.Perm.eq_nil h
theorem sorted1 {z : Str} (ys : List Str) (h : ys.Perm [z]) (_ : sortedS ys = true) : ys = [z] := List.perm_singleton.mp h
theorem c_neB {X : Cx} {p q : Bool} : CmpOk X .NotEq (.bl p) (.bl q) (.bl (!(p == q))) := neSc (u := .bl p) (v := .bl q) rfl (fun _ _ h => h) (fun _ _ h => h) (by cases p <;> cases q <;> rfl)
theorem mem_rng {n : Nat} {d : Dt} (h : d ∈ rng 0 n) : ∃ k, k < n ∧ d = .int (k : Int) := by
  obtain ⟨i, hi⟩ := List.getElem?_of_mem h
  have hlt : i < n := by
    have := (List.getElem?_eq_some_iff.mp hi).1
    rw [rng_len] at this
    exact this
  rw [rng_get n 0 i hlt] at hi
  refine ⟨i, hlt, ?_⟩
  have := Option.some.inj hi
  rw [← this]
  congr 1
  omega
section
variable {P : Program} {w : World} {K : PySem.W.Frag} {mg : Str → Option Value} {base : Heap} {cl : Nat → Addr}
theorem b_Llike (B : Bl mg) {n k : Nat} (hnk : n ≤ k) (D : Df P w K mg base "_law_like" n (cLike n)) : BodyOk P w K mg base N_Llike ["told", "due"] "_law_like" s_Llike k (cLike (n + 1)) := by
  intro f cdv A outer s H E ds M R Z hr hl ⟨d, e, hd, hR⟩
  subst e
  have hu : (Xd P w K mg base N_Llike "_law_like" s_Llike f cdv A outer s H E).A.units + 64 < cLine := by have := hr.un; omega
  have hk := dp_kn hd
  -- ints, bools, texts
  have one : (isI d || isS d) = true → CmpOk (Xd P w K mg base N_Llike "_law_like" s_Llike f cdv A outer s H E) .Eq d d (.bl true) → SS (Xd P w K mg base N_Llike "_law_like" s_Llike f cdv A outer s H E) (defBody s_Llike) [some d, some d, none, none] M (PoF M R Z) := fun h hc => by
    refine ss_cons (s1_if (k := true) (ET.is (tx_w (wx_or (tx_val (ex_isi (isi_I hk) B.isi B.int (ex_nm 1))) fun _ => wx_or1 (tx_val (ex_isi (isi_S hk) B.isi B.str (ex_nm 1))))) h) (fun _ => ?_) fun z => absurd z (by simp))
    refine ss_one (s1_ret (EE.is (ex_and (ex_cp (ex_isi (isi_B hk) B.isi B.bool (ex_nm 0)) (ex_isi (isi_B hk) B.isi B.bool (ex_nm 1)) c_eqB) fun _ => ex_and (ex_cp (ex_isi (isi_I hk) B.isi B.int (ex_nm 0)) (ex_isi (isi_I hk) B.isi B.int (ex_nm 1)) c_eqB) fun _ => ex_and (ex_cp (ex_isi (isi_S hk) B.isi B.str (ex_nm 0)) (ex_isi (isi_S hk) B.isi B.str (ex_nm 1)) c_eqB) fun _ => ex_one (ex_cp (ex_nm 0) (ex_nm 1) hc)) ?_) (.of hR))
    simp
  -- lists, tuples
  have seq : ∀ l : List Dt, (isL d || isT d) = true → (isI d || isS d) = false → isD d = false → l.length ≤ 1000 → (∀ x ∈ l, dp n x = true) → (∀ {X : Cx}, X.K = K → CallD X.K (rLen X.K) [d] (.int (l.length : Int))) → (∀ {X : Cx} {m : Nat} {x : Dt}, l[m]? = some x → IxOk X d (.int (m : Int)) x) →
      SS (Xd P w K mg base N_Llike "_law_like" s_Llike f cdv A outer s H E) (defBody s_Llike) [some d, some d, none, none] M (PoF M R Z) := fun l h1 h2 h3 hlen hall hln hix => by
    refine ss_cons (s1_if (k := false) (ET.is (tx_w (wx_or (tx_val (ex_isi (isi_I hk) B.isi B.int (ex_nm 1))) fun _ => wx_or1 (tx_val (ex_isi (isi_S hk) B.isi B.str (ex_nm 1))))) h2) (fun z => absurd z (by simp)) fun _ => ss_nil ?_)
    refine ss_cons (s1_if (k := false) ((tx_val (ex_isi (isi_Di hk) B.isi B.dict (ex_nm 1))).is h3) (fun z => absurd z (by simp)) fun _ => ss_nil ?_)
    refine ss_cons (s1_if (k := true) (ET.is (tx_w (wx_or (tx_val (ex_isi (isi_L hk) B.isi B.list (ex_nm 1))) fun _ => wx_or1 (tx_val (ex_isi (isi_T hk) B.isi B.tuple (ex_nm 1))))) h1) (fun _ => ?_) fun z => absurd z (by simp))
    refine ss_cons (s1_if (k := false) (ET.is (tx_w (wx_or (tx_cp (ex_isi (isi_L hk) B.isi B.list (ex_nm 0)) (ex_isi (isi_L hk) B.isi B.list (ex_nm 1)) c_neB) fun _ => wx_or (tx_cp (ex_isi (isi_T hk) B.isi B.tuple (ex_nm 0)) (ex_isi (isi_T hk) B.isi B.tuple (ex_nm 1)) c_neB) fun _ => wx_or1 (tx_cp (ex_len (hln rfl) B.len (ex_nm 0)) (ex_len (hln rfl) B.len (ex_nm 1)) c_neI))) (by simp)) (fun z => absurd z (by simp)) fun _ => ss_nil ?_)
    refine ss_one (s1_ret (EE.is (ex_cp (d1 := .lst (((rng 0 l.length).filter fun _ => false).map id)) (ex_lcFil 3 id (fun _ => false) rfl sc_Llike.nd (ix_range (n := (l.length : Int)) B.range (ax_cons (ex_len (hln rfl) B.len (ex_nm 1)) ax_nil) (by omega)) (by exact (show BlkOk N_Llike (defScope s_Llike) _ [("k", 3)] from ⟨rfl, by decide +kernel, by decide +kernel, by decide +kernel, by decide +kernel⟩)) (by rw [rng_len]; omega) (fun x hx s H C cl fp => ?_) fun x hx s H C cl fp => ex_nm 3) (ex_lst ax_nil) (c_eqNil (by omega))) ?_) (.of hR))
    · obtain ⟨m, hm, rfl⟩ := mem_rng hx
      have hm : m < l.length := by simpa using hm
      have hg : l[m]? = some l[m] := List.getElem?_eq_getElem hm
      show TX _ _ _ _ (!true) _
      exact tx_not (tx_val (ex_call D hr (ax_cons (ex_at (ex_nm 0) (ex_nm 3) (hix hg)) (ax_cons (ex_at (ex_nm 1) (ex_nm 3) (hix hg)) ax_nil)) ⟨_, rfl, hall _ (List.getElem_mem hm), rfl, rfl⟩ rfl hnk))
    · simp
  cases d with
  | bl b => exact one rfl (by have := c_eqB (X := Xd P w K mg base N_Llike "_law_like" s_Llike f cdv A outer s H E) (p := b) (q := b); simpa using this)
  | int i => exact one rfl (by have := c_eqI (X := Xd P w K mg base N_Llike "_law_like" s_Llike f cdv A outer s H E) (i := i) (j := i); simpa using this)
  | str z => exact one rfl (by have := c_eqS (X := Xd P w K mg base N_Llike "_law_like" s_Llike f cdv A outer s H E) (s := z) (t := z); simpa using this)
  | tup l =>
    obtain ⟨h1, h2⟩ := Bool.and_eq_true_iff.mp (show (l.all (dp n) && decide (l.length ≤ 1000)) = true from hd)
    exact seq l rfl rfl rfl (of_decide_eq_true h2) (fun x hx => List.all_eq_true.mp h1 x hx) (fun _ => len_tup) (fun hg => i_tup hg)
  | lst l =>
    obtain ⟨h1, h2⟩ := Bool.and_eq_true_iff.mp (show (l.all (dp n) && decide (l.length ≤ 1000)) = true from hd)
    exact seq l rfl rfl rfl (of_decide_eq_true h2) (fun x hx => List.all_eq_true.mp h1 x hx) (fun _ => len_lst) (fun hg => i_lst hg)
  | dic ks l =>
    have hkl := dp_dic hd
    refine ss_cons (s1_if (k := false) (ET.is (tx_w (wx_or (tx_val (ex_isi (isi_I hk) B.isi B.int (ex_nm 1))) fun _ => wx_or1 (tx_val (ex_isi (isi_S hk) B.isi B.str (ex_nm 1))))) rfl) (fun z => absurd z (by simp)) fun _ => ss_nil ?_)
    refine ss_cons (s1_if (tx_val (ex_isi (isi_Di hk) B.isi B.dict (ex_nm 1))) (fun _ => ?_) fun z => by cases z)
    have hks : ∀ k ∈ ks, (reprText k).length ≤ 1000 := fun k hkm => by
      rcases hkl with ⟨rfl, _⟩ | ⟨rfl, _⟩
      · cases hkm
      · rw [List.mem_singleton.mp hkm]
        decide +kernel
    have hk1 : ks.length ≤ 1 := by
      rcases hkl with ⟨rfl, _⟩ | ⟨rfl, _⟩ <;> simp
    have srt : ∀ ys : List Str, ys.Perm (ks.map reprText) → sortedS ys = true → ys = ks.map reprText := by
      rcases hkl with ⟨rfl, _⟩ | ⟨rfl, _⟩
      · exact sorted0
      · exact sorted1
    have esr : (ks.map fun k => Dt.str (reprText k)) = (ks.map reprText).map Dt.str := by rw [List.map_map]; rfl
    have shp : SeqAt.shaped (.list ((ks.map reprText).map PyData.str)) = true ∧ PyData.eqv (.list ((ks.map reprText).map PyData.str)) (.list ((ks.map reprText).map PyData.str)) = true := by
      rcases hkl with ⟨rfl, _⟩ | ⟨rfl, _⟩
      · decide +kernel
      · decide +kernel
    refine ss_cons (s1_if (k := false) (ET.is (tx_w (wx_or (k2 := false) (tx_not (tx_val (ex_isi (isi_Di hk) B.isi B.dict (ex_nm 0)))) fun _ => wx_or1 (tx_cp (ex_sorted (xs := ks.map reprText) B.sorted (EE.is (ex_lcRepr 2 0 (by decide) rfl sc_Llike.nd rfl (show 2 < 4 by decide) (by exact (show BlkOk N_Llike (defScope s_Llike) _ [("key", 2)] from ⟨rfl, by decide +kernel, by decide +kernel, by decide +kernel, by decide +kernel⟩)) hks (by omega) B.repr) (congrArg Dt.lst esr)) (by rw [List.length_map]; omega) srt)
      (ex_sorted (xs := ks.map reprText) B.sorted (EE.is (ex_lcRepr 2 1 (by decide) rfl sc_Llike.nd rfl (show 2 < 4 by decide) (by exact (show BlkOk N_Llike (defScope s_Llike) _ [("key", 2)] from ⟨rfl, by decide +kernel, by decide +kernel, by decide +kernel, by decide +kernel⟩)) hks (by omega) B.repr) (congrArg Dt.lst esr)) (by rw [List.length_map]; omega) srt) (c_neSs hu shp.1 shp.1 (by rw [shp.2]; rfl))))) rfl) (fun z => absurd z (by simp)) fun _ => ss_nil ?_)
    refine ss_one (s1_ret (ex_cp (ex_lcDict (W := cLike n) (n := n) (m := k) 2 1 0 (by decide) (by decide) rfl sc_Llike.nd rfl rfl (show 2 < 4 by decide) (by exact (show BlkOk N_Llike (defScope s_Llike) _ [("key", 2)] from ⟨rfl, by decide +kernel, by decide +kernel, by decide +kernel, by decide +kernel⟩)) ?_ D hr hnk ?_) (ex_lst ax_nil) (c_eqNil (by omega))) (.of hR))
    · rcases hkl with h | ⟨h1, h2, _⟩
      · exact .inl h
      · exact .inr ⟨_, h1, h2⟩
    · rintro ⟨z, e⟩
      rcases hkl with ⟨rfl, _⟩ | ⟨_, _, h⟩
      · cases e
      · exact ⟨_, rfl, h, rfl, rfl⟩
  | non =>
    refine ss_cons (s1_if (k := false) (ET.is (tx_w (wx_or (tx_val (ex_isi (isi_I hk) B.isi B.int (ex_nm 1))) fun _ => wx_or1 (tx_val (ex_isi (isi_S hk) B.isi B.str (ex_nm 1))))) rfl) (fun z => absurd z (by simp)) fun _ => ss_nil ?_)
    refine ss_cons (s1_if (k := false) ((tx_val (ex_isi (isi_Di hk) B.isi B.dict (ex_nm 1))).is rfl) (fun z => absurd z (by simp)) fun _ => ss_nil ?_)
    refine ss_cons (s1_if (k := false) (ET.is (tx_w (wx_or (tx_val (ex_isi (isi_L hk) B.isi B.list (ex_nm 1))) fun _ => wx_or1 (tx_val (ex_isi (isi_T hk) B.isi B.tuple (ex_nm 1))))) rfl) (fun z => absurd z (by simp)) fun _ => ss_nil ?_)
    exact ss_one (s1_ret (d := .bl true) (EE.is (ex_and (k := true) (k2 := true) (ex_cp (d1 := .non) (ex_nm 1) ex_non (c_isN (d := .non) rfl)) fun _ => ex_one (ex_cp (d1 := .non) (ex_nm 0) ex_non (c_isN (d := .non) rfl))) rfl) (.of hR))
  | raw v => cases hk
  | exc C ks l => cases hk
  | cau a dd C ks l => cases hk
  | fn f L l vs => cases hk
end
end K1

set_option Elab.async false
set_option linter.all false
set_option maxRecDepth 100000
set_option maxHeartbeats 4000000
set_option exponentiation.threshold 100000
/-! K17: _law_kin, _law_above. -/
namespace K1
open PySem PySem.Spec PyProof.Rows L2 HM TX XN L2H
/-- built-in names that the module does not hide -/
structure Bt (mg : Str → Option Value) : Prop where
  of : ∀ T ∈ ["ValueError", "LookupError", "RuntimeError", "KeyError", "IndexError"], mg (Str.ofString T) = none
def nearL (i : Nat) : List Dt := kinN.map fun n => .tup [.str n, .bl (decide (n ∈ above i))]
theorem near_eq {i : Nat} : Dt.lst [.tup [.str "BadName", .bl (decide (kinN.getD 0 "" ∈ above i))], .tup [.str "BadFraction", .bl (decide (kinN.getD 1 "" ∈ above i))], .tup [.str "BadNumber", .bl (decide (kinN.getD 2 "" ∈ above i))], .tup [.str "BadGround", .bl (decide (kinN.getD 3 "" ∈ above i))], .tup [.str "BadBook", .bl (decide (kinN.getD 4 "" ∈ above i))], .tup [.str "BadRecipe", .bl (decide (kinN.getD 5 "" ∈ above i))], .tup [.str "BadLook", .bl (decide (kinN.getD 6 "" ∈ above i))], .tup [.str "BadTerm", .bl (decide (kinN.getD 7 "" ∈ above i))], .tup [.str "BadQuestion", .bl (decide (kinN.getD 8 "" ∈ above i))], .tup [.str "BadReading", .bl (decide (kinN.getD 9 "" ∈ above i))],
  .tup [.str "BadScript", .bl (decide (kinN.getD 10 "" ∈ above i))], .tup [.str "NotBare", .bl (decide (kinN.getD 11 "" ∈ above i))], .tup [.str "NotOne", .bl (decide (kinN.getD 12 "" ∈ above i))], .tup [.str "NotScorer", .bl (decide (kinN.getD 13 "" ∈ above i))], .tup [.str "NoChance", .bl (decide (kinN.getD 14 "" ∈ above i))], .tup [.str "Unlike", .bl (decide (kinN.getD 15 "" ∈ above i))], .tup [.str "TooFew", .bl (decide (kinN.getD 16 "" ∈ above i))], .tup [.str "TooMany", .bl (decide (kinN.getD 17 "" ∈ above i))], .tup [.str "NoSuch", .bl (decide (kinN.getD 18 "" ∈ above i))], .tup [.str "Ended", .bl (decide (kinN.getD 19 "" ∈ above i))],
  .tup [.str "ModelError", .bl (decide (kinN.getD 20 "" ∈ above i))], .tup [.str "Missing", .bl (decide (kinN.getD 21 "" ∈ above i))], .tup [.str "ValueError", .bl (decide (Str.ofString "ValueError" ∈ above i))], .tup [.str "LookupError", .bl (decide (Str.ofString "LookupError" ∈ above i))], .tup [.str "RuntimeError", .bl (decide (Str.ofString "RuntimeError" ∈ above i))], .tup [.str "KeyError", .bl (decide (Str.ofString "KeyError" ∈ above i))], .tup [.str "IndexError", .bl (decide (Str.ofString "IndexError" ∈ above i))]] = .lst (nearL i) := rfl
theorem kin_all : ∀ i, i < 20 → ((kinN.take (nearL i).length).filter fun n => decide (n ∈ above i)).map Dt.str = (above i).map Dt.str := by
  have h : ∀ i, i < 20 → (kinN.filter fun n => decide (n ∈ above i)) = above i := by decide +kernel
  intro i hi
  have e : (nearL i).length = kinN.length := by unfold nearL; rw [List.length_map]
  rw [e, List.take_length, h i hi]
/-- of an exception held as a value -/
def cKin (cl : Nat → Addr) : Ct := fun ds M R _ => ∃ i fs, i < 20 ∧ ds = [.exc (cl i) (cks i) fs] ∧ R (.lst ((above i).map Dt.str)) M
/-- of the exception that is handled -/
def cKinH (cl : Nat → Addr) (p : Addr × Obj) : Ct := fun ds M R _ => ∃ i fs dd, i < 20 ∧ ds = [.cau p.1 dd (cl i) (cks i) fs] ∧ Zc (.ref (cl i)) (some dd) p.2 ∧ (∃ vs, p.2.data = .fields vs) ∧ R (.lst ((above i).map Dt.str)) M
def cAbove : Ct := fun ds M R _ => ∃ i, i < 20 ∧ ds = [.str (cnm i)] ∧ R (.lst ((above i).map Dt.str)) M
section
variable {P : Program} {w : World} {K : PySem.W.Frag} {mg : Str → Option Value} {base : Heap} {cl : Nat → Addr}
theorem b_Lkin (B : Bl mg) (E : Bt mg) (C : Cls P K mg cl) : BodyOk P w K mg base N_Lkin ["error"] "_law_kin" s_Lkin 0 (cKin cl) := by
  intro f cdv A outer s H E' ds M R Z hr hl ⟨i, fs, hi, e, hR⟩
  subst e
  have hV : ExcV (Xd P w K mg base N_Lkin "_law_kin" s_Lkin f cdv A outer s H E') (.exc (cl i) (cks i) fs) (cl i) (cks i) fs := excV_exc
  refine ss_cons (s1_set 1 sc_Lkin.nd (d := .lst (nearL i)) (EE.is (ex_ls (
      ax_cons (ex_tp (ax_cons ex_str (ax_cons (ex_isx (p3 := default) (C.ec i hi) hV (ex_nm 0) (ex_glob (v := .ref (cl 0)) rfl (C.xm 0 (by decide)).mg rfl) (.own _) (C.one i hi 0 (by decide)) B.isi) ax_nil))) <|
      ax_cons (ex_tp (ax_cons ex_str (ax_cons (ex_isx (p3 := default) (C.ec i hi) hV (ex_nm 0) (ex_glob (v := .ref (cl 1)) rfl (C.xm 1 (by decide)).mg rfl) (.own _) (C.one i hi 1 (by decide)) B.isi) ax_nil))) <|
      ax_cons (ex_tp (ax_cons ex_str (ax_cons (ex_isx (p3 := default) (C.ec i hi) hV (ex_nm 0) (ex_glob (v := .ref (cl 2)) rfl (C.xm 2 (by decide)).mg rfl) (.own _) (C.one i hi 2 (by decide)) B.isi) ax_nil))) <|
      ax_cons (ex_tp (ax_cons ex_str (ax_cons (ex_isx (p3 := default) (C.ec i hi) hV (ex_nm 0) (ex_glob (v := .ref (cl 3)) rfl (C.xm 3 (by decide)).mg rfl) (.own _) (C.one i hi 3 (by decide)) B.isi) ax_nil))) <|
      ax_cons (ex_tp (ax_cons ex_str (ax_cons (ex_isx (p3 := default) (C.ec i hi) hV (ex_nm 0) (ex_glob (v := .ref (cl 4)) rfl (C.xm 4 (by decide)).mg rfl) (.own _) (C.one i hi 4 (by decide)) B.isi) ax_nil))) <|
      ax_cons (ex_tp (ax_cons ex_str (ax_cons (ex_isx (p3 := default) (C.ec i hi) hV (ex_nm 0) (ex_glob (v := .ref (cl 5)) rfl (C.xm 5 (by decide)).mg rfl) (.own _) (C.one i hi 5 (by decide)) B.isi) ax_nil))) <|
      ax_cons (ex_tp (ax_cons ex_str (ax_cons (ex_isx (p3 := default) (C.ec i hi) hV (ex_nm 0) (ex_glob (v := .ref (cl 6)) rfl (C.xm 6 (by decide)).mg rfl) (.own _) (C.one i hi 6 (by decide)) B.isi) ax_nil))) <|
      ax_cons (ex_tp (ax_cons ex_str (ax_cons (ex_isx (p3 := default) (C.ec i hi) hV (ex_nm 0) (ex_glob (v := .ref (cl 7)) rfl (C.xm 7 (by decide)).mg rfl) (.own _) (C.one i hi 7 (by decide)) B.isi) ax_nil))) <|
      ax_cons (ex_tp (ax_cons ex_str (ax_cons (ex_isx (p3 := default) (C.ec i hi) hV (ex_nm 0) (ex_glob (v := .ref (cl 8)) rfl (C.xm 8 (by decide)).mg rfl) (.own _) (C.one i hi 8 (by decide)) B.isi) ax_nil))) <|
      ax_cons (ex_tp (ax_cons ex_str (ax_cons (ex_isx (p3 := default) (C.ec i hi) hV (ex_nm 0) (ex_glob (v := .ref (cl 9)) rfl (C.xm 9 (by decide)).mg rfl) (.own _) (C.one i hi 9 (by decide)) B.isi) ax_nil))) <|
      ax_cons (ex_tp (ax_cons ex_str (ax_cons (ex_isx (p3 := default) (C.ec i hi) hV (ex_nm 0) (ex_glob (v := .ref (cl 10)) rfl (C.xm 10 (by decide)).mg rfl) (.own _) (C.one i hi 10 (by decide)) B.isi) ax_nil))) <|
      ax_cons (ex_tp (ax_cons ex_str (ax_cons (ex_isx (p3 := default) (C.ec i hi) hV (ex_nm 0) (ex_glob (v := .ref (cl 11)) rfl (C.xm 11 (by decide)).mg rfl) (.own _) (C.one i hi 11 (by decide)) B.isi) ax_nil))) <|
      ax_cons (ex_tp (ax_cons ex_str (ax_cons (ex_isx (p3 := default) (C.ec i hi) hV (ex_nm 0) (ex_glob (v := .ref (cl 12)) rfl (C.xm 12 (by decide)).mg rfl) (.own _) (C.one i hi 12 (by decide)) B.isi) ax_nil))) <|
      ax_cons (ex_tp (ax_cons ex_str (ax_cons (ex_isx (p3 := default) (C.ec i hi) hV (ex_nm 0) (ex_glob (v := .ref (cl 13)) rfl (C.xm 13 (by decide)).mg rfl) (.own _) (C.one i hi 13 (by decide)) B.isi) ax_nil))) <|
      ax_cons (ex_tp (ax_cons ex_str (ax_cons (ex_isx (p3 := default) (C.ec i hi) hV (ex_nm 0) (ex_glob (v := .ref (cl 14)) rfl (C.xm 14 (by decide)).mg rfl) (.own _) (C.one i hi 14 (by decide)) B.isi) ax_nil))) <|
      ax_cons (ex_tp (ax_cons ex_str (ax_cons (ex_isx (p3 := default) (C.ec i hi) hV (ex_nm 0) (ex_glob (v := .ref (cl 15)) rfl (C.xm 15 (by decide)).mg rfl) (.own _) (C.one i hi 15 (by decide)) B.isi) ax_nil))) <|
      ax_cons (ex_tp (ax_cons ex_str (ax_cons (ex_isx (p3 := default) (C.ec i hi) hV (ex_nm 0) (ex_glob (v := .ref (cl 16)) rfl (C.xm 16 (by decide)).mg rfl) (.own _) (C.one i hi 16 (by decide)) B.isi) ax_nil))) <|
      ax_cons (ex_tp (ax_cons ex_str (ax_cons (ex_isx (p3 := default) (C.ec i hi) hV (ex_nm 0) (ex_glob (v := .ref (cl 17)) rfl (C.xm 17 (by decide)).mg rfl) (.own _) (C.one i hi 17 (by decide)) B.isi) ax_nil))) <|
      ax_cons (ex_tp (ax_cons ex_str (ax_cons (ex_isx (p3 := default) (C.ec i hi) hV (ex_nm 0) (ex_glob (v := .ref (cl 18)) rfl (C.xm 18 (by decide)).mg rfl) (.own _) (C.one i hi 18 (by decide)) B.isi) ax_nil))) <|
      ax_cons (ex_tp (ax_cons ex_str (ax_cons (ex_isx (p3 := default) (C.ec i hi) hV (ex_nm 0) (ex_glob (v := .ref (cl 19)) rfl (C.xm 19 (by decide)).mg rfl) (.own _) (C.one i hi 19 (by decide)) B.isi) ax_nil))) <|
      ax_cons (ex_tp (ax_cons ex_str (ax_cons (ex_isx (p3 := default) (C.ec i hi) hV (ex_nm 0) (ex_glob (v := .ref (cl 20)) rfl C.me rfl) (.own _) (C.one i hi 20 (by decide)) B.isi) ax_nil))) <|
      ax_cons (ex_tp (ax_cons ex_str (ax_cons (ex_isx (p3 := default) (C.ec i hi) hV (ex_nm 0) (ex_glob (v := .ref (cl 21)) rfl C.mi rfl) (.own _) (C.one i hi 21 (by decide)) B.isi) ax_nil))) <|
      ax_cons (ex_tp (ax_cons ex_str (ax_cons (ex_isx (p3 := default) (C.ec i hi) hV (ex_nm 0) (ex_ty (T := "ValueError") (E.of "ValueError" (by decide))) (.ty _) (C.oneB i hi "ValueError" (by decide)) B.isi) ax_nil))) <|
      ax_cons (ex_tp (ax_cons ex_str (ax_cons (ex_isx (p3 := default) (C.ec i hi) hV (ex_nm 0) (ex_ty (T := "LookupError") (E.of "LookupError" (by decide))) (.ty _) (C.oneB i hi "LookupError" (by decide)) B.isi) ax_nil))) <|
      ax_cons (ex_tp (ax_cons ex_str (ax_cons (ex_isx (p3 := default) (C.ec i hi) hV (ex_nm 0) (ex_ty (T := "RuntimeError") (E.of "RuntimeError" (by decide))) (.ty _) (C.oneB i hi "RuntimeError" (by decide)) B.isi) ax_nil))) <|
      ax_cons (ex_tp (ax_cons ex_str (ax_cons (ex_isx (p3 := default) (C.ec i hi) hV (ex_nm 0) (ex_ty (T := "KeyError") (E.of "KeyError" (by decide))) (.ty _) (C.oneB i hi "KeyError" (by decide)) B.isi) ax_nil))) <|
      ax_cons (ex_tp (ax_cons ex_str (ax_cons (ex_isx (p3 := default) (C.ec i hi) hV (ex_nm 0) (ex_ty (T := "IndexError") (E.of "IndexError" (by decide))) (.ty _) (C.oneB i hi "IndexError" (by decide)) B.isi) ax_nil))) ax_nil)) ?_) ?_)
  · exact near_eq
  have hsh : ∀ (j : Nat) d, (nearL i)[j]? = some d → ∃ d1 d2, d = Dt.tup [d1, d2] := fun j d h => by
    obtain ⟨n, _, rfl⟩ := get_map h
    exact ⟨_, _, rfl⟩
  refine ss_one (s1_ret (ex_lcT 2 3 (by decide) rfl sc_Lkin.nd (ex_nm 1) (by exact (show BlkOk N_Lkin (defScope s_Lkin) _ [("tag", 2), ("yes", 3)] from ⟨rfl, by decide +kernel, by decide +kernel, by decide +kernel, by decide +kernel⟩)) (fun j Mi acc => Mi = M ∧ acc = ((kinN.take j).filter fun n => decide (n ∈ above i)).map Dt.str) ⟨rfl, rfl⟩ (fun j Mi acc ⟨e1, e2⟩ => ⟨by rw [e1], ?_⟩) hsh (fun j d1 d2 Mi acc hj ⟨e1, e2⟩ => ?_) (fun Mn acc ⟨e1, e2⟩ => ⟨e1, ?_⟩) rfl) (.of hR))
  · rw [e2, List.length_map]
    have h1 := List.length_filter_le (fun n => decide (n ∈ above i)) (kinN.take j)
    have h2 : (kinN.take j).length ≤ 27 := by
      have := List.length_take_le j kinN
      rw [List.length_take]
      have : kinN.length = 27 := by decide
      omega
    omega
  · obtain ⟨n, hn, hd⟩ := get_map hj
    cases hd
    subst e1
    refine ⟨decide (n ∈ above i), fun s H C cl fp => tx_val (ex_nm 3), fun hb => ⟨.str n, fun s H C cl fp => ex_nm 2, rfl, ?_⟩, fun hb => ⟨rfl, ?_⟩⟩
    · rw [e2, take_snoc hn, List.filter_append, List.map_append]
      simp [hb]
    · rw [e2, take_snoc hn, List.filter_append]
      simp [hb]
  · rw [e2]
    exact kin_all i hi
theorem b_LkinH (B : Bl mg) (E : Bt mg) (C : Cls P K mg cl) : BodyOkH P w K mg base N_Lkin ["error"] "_law_kin" s_Lkin 0 (cKinH cl) := by
  intro f cdv A outer s H E' p ds M R Z hr hot hl ⟨i, fs, dd, hi, e, hz, hf, hR⟩
  subst e
  have hV : ExcV (XdH P w K mg base N_Lkin "_law_kin" s_Lkin f cdv A outer s H E' p) (.cau p.1 dd (cl i) (cks i) fs) (cl i) (cks i) fs := excV_cau (oe := p.2) List.mem_cons_self hz hf
  have hotC : HotC (XdH P w K mg base N_Lkin "_law_kin" s_Lkin f cdv A outer s H E' p) := ⟨p, hot, List.mem_cons_self⟩
  refine ss_cons (s1_set 1 sc_Lkin.nd (d := .lst (nearL i)) (EE.is (ex_ls (
      ax_cons (ex_tp (ax_cons ex_str (ax_cons (ex_isx (p3 := default) (C.ec i hi) hV (ex_nm 0) (ex_glob (v := .ref (cl 0)) rfl (C.xm 0 (by decide)).mg rfl) (.own _) (C.one i hi 0 (by decide)) B.isi) ax_nil))) <|
      ax_cons (ex_tp (ax_cons ex_str (ax_cons (ex_isx (p3 := default) (C.ec i hi) hV (ex_nm 0) (ex_glob (v := .ref (cl 1)) rfl (C.xm 1 (by decide)).mg rfl) (.own _) (C.one i hi 1 (by decide)) B.isi) ax_nil))) <|
      ax_cons (ex_tp (ax_cons ex_str (ax_cons (ex_isx (p3 := default) (C.ec i hi) hV (ex_nm 0) (ex_glob (v := .ref (cl 2)) rfl (C.xm 2 (by decide)).mg rfl) (.own _) (C.one i hi 2 (by decide)) B.isi) ax_nil))) <|
      ax_cons (ex_tp (ax_cons ex_str (ax_cons (ex_isx (p3 := default) (C.ec i hi) hV (ex_nm 0) (ex_glob (v := .ref (cl 3)) rfl (C.xm 3 (by decide)).mg rfl) (.own _) (C.one i hi 3 (by decide)) B.isi) ax_nil))) <|
      ax_cons (ex_tp (ax_cons ex_str (ax_cons (ex_isx (p3 := default) (C.ec i hi) hV (ex_nm 0) (ex_glob (v := .ref (cl 4)) rfl (C.xm 4 (by decide)).mg rfl) (.own _) (C.one i hi 4 (by decide)) B.isi) ax_nil))) <|
      ax_cons (ex_tp (ax_cons ex_str (ax_cons (ex_isx (p3 := default) (C.ec i hi) hV (ex_nm 0) (ex_glob (v := .ref (cl 5)) rfl (C.xm 5 (by decide)).mg rfl) (.own _) (C.one i hi 5 (by decide)) B.isi) ax_nil))) <|
      ax_cons (ex_tp (ax_cons ex_str (ax_cons (ex_isx (p3 := default) (C.ec i hi) hV (ex_nm 0) (ex_glob (v := .ref (cl 6)) rfl (C.xm 6 (by decide)).mg rfl) (.own _) (C.one i hi 6 (by decide)) B.isi) ax_nil))) <|
      ax_cons (ex_tp (ax_cons ex_str (ax_cons (ex_isx (p3 := default) (C.ec i hi) hV (ex_nm 0) (ex_glob (v := .ref (cl 7)) rfl (C.xm 7 (by decide)).mg rfl) (.own _) (C.one i hi 7 (by decide)) B.isi) ax_nil))) <|
      ax_cons (ex_tp (ax_cons ex_str (ax_cons (ex_isx (p3 := default) (C.ec i hi) hV (ex_nm 0) (ex_glob (v := .ref (cl 8)) rfl (C.xm 8 (by decide)).mg rfl) (.own _) (C.one i hi 8 (by decide)) B.isi) ax_nil))) <|
      ax_cons (ex_tp (ax_cons ex_str (ax_cons (ex_isx (p3 := default) (C.ec i hi) hV (ex_nm 0) (ex_glob (v := .ref (cl 9)) rfl (C.xm 9 (by decide)).mg rfl) (.own _) (C.one i hi 9 (by decide)) B.isi) ax_nil))) <|
      ax_cons (ex_tp (ax_cons ex_str (ax_cons (ex_isx (p3 := default) (C.ec i hi) hV (ex_nm 0) (ex_glob (v := .ref (cl 10)) rfl (C.xm 10 (by decide)).mg rfl) (.own _) (C.one i hi 10 (by decide)) B.isi) ax_nil))) <|
      ax_cons (ex_tp (ax_cons ex_str (ax_cons (ex_isx (p3 := default) (C.ec i hi) hV (ex_nm 0) (ex_glob (v := .ref (cl 11)) rfl (C.xm 11 (by decide)).mg rfl) (.own _) (C.one i hi 11 (by decide)) B.isi) ax_nil))) <|
      ax_cons (ex_tp (ax_cons ex_str (ax_cons (ex_isx (p3 := default) (C.ec i hi) hV (ex_nm 0) (ex_glob (v := .ref (cl 12)) rfl (C.xm 12 (by decide)).mg rfl) (.own _) (C.one i hi 12 (by decide)) B.isi) ax_nil))) <|
      ax_cons (ex_tp (ax_cons ex_str (ax_cons (ex_isx (p3 := default) (C.ec i hi) hV (ex_nm 0) (ex_glob (v := .ref (cl 13)) rfl (C.xm 13 (by decide)).mg rfl) (.own _) (C.one i hi 13 (by decide)) B.isi) ax_nil))) <|
      ax_cons (ex_tp (ax_cons ex_str (ax_cons (ex_isx (p3 := default) (C.ec i hi) hV (ex_nm 0) (ex_glob (v := .ref (cl 14)) rfl (C.xm 14 (by decide)).mg rfl) (.own _) (C.one i hi 14 (by decide)) B.isi) ax_nil))) <|
      ax_cons (ex_tp (ax_cons ex_str (ax_cons (ex_isx (p3 := default) (C.ec i hi) hV (ex_nm 0) (ex_glob (v := .ref (cl 15)) rfl (C.xm 15 (by decide)).mg rfl) (.own _) (C.one i hi 15 (by decide)) B.isi) ax_nil))) <|
      ax_cons (ex_tp (ax_cons ex_str (ax_cons (ex_isx (p3 := default) (C.ec i hi) hV (ex_nm 0) (ex_glob (v := .ref (cl 16)) rfl (C.xm 16 (by decide)).mg rfl) (.own _) (C.one i hi 16 (by decide)) B.isi) ax_nil))) <|
      ax_cons (ex_tp (ax_cons ex_str (ax_cons (ex_isx (p3 := default) (C.ec i hi) hV (ex_nm 0) (ex_glob (v := .ref (cl 17)) rfl (C.xm 17 (by decide)).mg rfl) (.own _) (C.one i hi 17 (by decide)) B.isi) ax_nil))) <|
      ax_cons (ex_tp (ax_cons ex_str (ax_cons (ex_isx (p3 := default) (C.ec i hi) hV (ex_nm 0) (ex_glob (v := .ref (cl 18)) rfl (C.xm 18 (by decide)).mg rfl) (.own _) (C.one i hi 18 (by decide)) B.isi) ax_nil))) <|
      ax_cons (ex_tp (ax_cons ex_str (ax_cons (ex_isx (p3 := default) (C.ec i hi) hV (ex_nm 0) (ex_glob (v := .ref (cl 19)) rfl (C.xm 19 (by decide)).mg rfl) (.own _) (C.one i hi 19 (by decide)) B.isi) ax_nil))) <|
      ax_cons (ex_tp (ax_cons ex_str (ax_cons (ex_isx (p3 := default) (C.ec i hi) hV (ex_nm 0) (ex_glob (v := .ref (cl 20)) rfl C.me rfl) (.own _) (C.one i hi 20 (by decide)) B.isi) ax_nil))) <|
      ax_cons (ex_tp (ax_cons ex_str (ax_cons (ex_isx (p3 := default) (C.ec i hi) hV (ex_nm 0) (ex_glob (v := .ref (cl 21)) rfl C.mi rfl) (.own _) (C.one i hi 21 (by decide)) B.isi) ax_nil))) <|
      ax_cons (ex_tp (ax_cons ex_str (ax_cons (ex_isx (p3 := default) (C.ec i hi) hV (ex_nm 0) (ex_ty (T := "ValueError") (E.of "ValueError" (by decide))) (.ty _) (C.oneB i hi "ValueError" (by decide)) B.isi) ax_nil))) <|
      ax_cons (ex_tp (ax_cons ex_str (ax_cons (ex_isx (p3 := default) (C.ec i hi) hV (ex_nm 0) (ex_ty (T := "LookupError") (E.of "LookupError" (by decide))) (.ty _) (C.oneB i hi "LookupError" (by decide)) B.isi) ax_nil))) <|
      ax_cons (ex_tp (ax_cons ex_str (ax_cons (ex_isx (p3 := default) (C.ec i hi) hV (ex_nm 0) (ex_ty (T := "RuntimeError") (E.of "RuntimeError" (by decide))) (.ty _) (C.oneB i hi "RuntimeError" (by decide)) B.isi) ax_nil))) <|
      ax_cons (ex_tp (ax_cons ex_str (ax_cons (ex_isx (p3 := default) (C.ec i hi) hV (ex_nm 0) (ex_ty (T := "KeyError") (E.of "KeyError" (by decide))) (.ty _) (C.oneB i hi "KeyError" (by decide)) B.isi) ax_nil))) <|
      ax_cons (ex_tp (ax_cons ex_str (ax_cons (ex_isx (p3 := default) (C.ec i hi) hV (ex_nm 0) (ex_ty (T := "IndexError") (E.of "IndexError" (by decide))) (.ty _) (C.oneB i hi "IndexError" (by decide)) B.isi) ax_nil))) ax_nil)) ?_) ?_)
  · exact near_eq
  have hsh : ∀ (j : Nat) d, (nearL i)[j]? = some d → ∃ d1 d2, d = Dt.tup [d1, d2] := fun j d h => by
    obtain ⟨n, _, rfl⟩ := get_map h
    exact ⟨_, _, rfl⟩
  refine ss_one (s1_ret (ex_lcTH 2 3 (by decide) hotC sc_Lkin.nd (ex_nm 1) (by exact (show BlkOk N_Lkin (defScope s_Lkin) _ [("tag", 2), ("yes", 3)] from ⟨rfl, by decide +kernel, by decide +kernel, by decide +kernel, by decide +kernel⟩)) (fun j Mi acc => Mi = M ∧ acc = ((kinN.take j).filter fun n => decide (n ∈ above i)).map Dt.str) ⟨rfl, rfl⟩ (fun j Mi acc ⟨e1, e2⟩ => ⟨by rw [e1], ?_⟩) hsh (fun j d1 d2 Mi acc hj ⟨e1, e2⟩ => ?_) (fun Mn acc ⟨e1, e2⟩ => ⟨e1, ?_⟩) rfl) (.of hR))
  · rw [e2, List.length_map]
    have h1 := List.length_filter_le (fun n => decide (n ∈ above i)) (kinN.take j)
    have h2 : (kinN.take j).length ≤ 27 := by
      have := List.length_take_le j kinN
      rw [List.length_take]
      have : kinN.length = 27 := by decide
      omega
    omega
  · obtain ⟨n, hn, hd⟩ := get_map hj
    cases hd
    subst e1
    refine ⟨decide (n ∈ above i), fun s H C cl fp => tx_val (ex_nm 3), fun hb => ⟨.str n, fun s H C cl fp => ex_nm 2, rfl, ?_⟩, fun hb => ⟨rfl, ?_⟩⟩
    · rw [e2, take_snoc hn, List.filter_append, List.map_append]
      simp [hb]
    · rw [e2, take_snoc hn, List.filter_append]
      simp [hb]
  · rw [e2]
    exact kin_all i hi
theorem cnm_ne : ∀ i, i < 20 → (decide (cnm i = "NoSuch") = decide (i = 18)) ∧ (decide (cnm i = "Ended") = decide (i = 19)) := by decide +kernel
theorem b_Labove : BodyOk P w K mg base N_Labove ["tag"] "_law_above" s_Labove 0 cAbove := by
  intro f cdv A outer s H E ds M R Z hr hl ⟨i, hi, e, hR⟩
  subst e
  obtain ⟨n1, n2⟩ := cnm_ne i hi
  unfold above at hR
  refine ss_cons (s1_if ((tx_cp (ex_nm 0) ex_str c_eqS).is n1) (fun h => ?_) fun h => ss_nil ?_)
  · have h : i = 18 := of_decide_eq_true h
    rw [if_pos h] at hR
    exact ss_one (s1_ret (ex_ls (ax_cons (ex_nm 0) (ax_cons ex_str (ax_cons ex_str ax_nil)))) (.of hR))
  · have h : ¬ i = 18 := of_decide_eq_false h
    rw [if_neg h] at hR
    refine ss_one (s1_ret (ex_if ((tx_cp (ex_nm 0) ex_str c_eqS).is n2) (fun h2 => ?_) fun h2 => ?_) (.of hR))
    · have h2 : i = 19 := of_decide_eq_true h2
      rw [if_pos h2]
      exact ex_ls (ax_cons (ex_nm 0) (ax_cons ex_str ax_nil))
    · have h2 : ¬ i = 19 := of_decide_eq_false h2
      rw [if_neg h2]
      exact ex_ls (ax_cons (ex_nm 0) (ax_cons ex_str (ax_cons ex_str ax_nil)))
theorem b_LaboveH : BodyOkH P w K mg base N_Labove ["tag"] "_law_above" s_Labove 0 (fun _ => cAbove) := by
  intro f cdv A outer s H E p ds M R Z hr hot hl ⟨i, hi, e, hR⟩
  subst e
  obtain ⟨n1, n2⟩ := cnm_ne i hi
  unfold above at hR
  refine ss_cons (s1_if ((tx_cp (ex_nm 0) ex_str c_eqS).is n1) (fun h => ?_) fun h => ss_nil ?_)
  · have h : i = 18 := of_decide_eq_true h
    rw [if_pos h] at hR
    exact ss_one (s1_ret (ex_ls (ax_cons (ex_nm 0) (ax_cons ex_str (ax_cons ex_str ax_nil)))) (.of hR))
  · have h : ¬ i = 18 := of_decide_eq_false h
    rw [if_neg h] at hR
    refine ss_one (s1_ret (ex_if ((tx_cp (ex_nm 0) ex_str c_eqS).is n2) (fun h2 => ?_) fun h2 => ?_) (.of hR))
    · have h2 : i = 19 := of_decide_eq_true h2
      rw [if_pos h2]
      exact ex_ls (ax_cons (ex_nm 0) (ax_cons ex_str ax_nil))
    · have h2 : ¬ i = 19 := of_decide_eq_false h2
      rw [if_neg h2]
      exact ex_ls (ax_cons (ex_nm 0) (ax_cons ex_str (ax_cons ex_str ax_nil)))
end
end K1


set_option Elab.async false
set_option linter.all false
set_option maxRecDepth 100000
set_option maxHeartbeats 4000000
set_option exponentiation.threshold 100000
/-! K18: _law_caught, _law_tried, _law_refused. -/
namespace K1
open PySem PySem.Spec PyProof.Rows L2 HM TX XN L2H LM L2N
def cCaught (cl : Nat → Addr) (p : Addr × Obj) : Ct := fun ds M R _ => ∃ i fs fl dd, i < 20 ∧ ds = [.cau p.1 dd (cl i) (cks i) fs, .str (cnm i), .tup fl] ∧ fl.length ≤ 10 ∧ Zc (.ref (cl i)) (some dd) p.2 ∧ (∃ vs, p.2.data = .fields vs) ∧ R (.tup (.str (cnm i) :: fl)) M
theorem above_eq : ∀ i, i < 20 → SeqAt.shaped (.list ((above i).map PyData.str)) = true ∧ PyData.eqv (.list ((above i).map PyData.str)) (.list ((above i).map PyData.str)) = true := by decide +kernel
/-- what a call that always raises is told as -/
def outD (i : Nat) (ds : List Dt) : Dt := .tup (.str (cnm i) :: ds)
/-- the lambda raises the i-th class's exception of ds, whatever else -/
abbrev ZOne (cl : Nat → Addr) (i : Nat) (ds : List Dt) (M : Mst) : Er := fun C ks fs M' => C = cl i ∧ ks = cks i ∧ fs = cfs i ds ∧ M' = M
def cTried (cl : Nat → Addr) (P : Program) (w : World) (K : PySem.W.Frag) (mg : Str → Option Value) (base : Heap) (k : Nat) : Ct := fun ds M R _ => ∃ f L l vs i ds', ds = [.fn f L l vs] ∧ (i = 1 ∨ i = 2 ∨ i = 17) ∧ ds'.length = (cps i).length ∧ LmOk P w K mg base k f L l vs M (fun _ _ => False) (ZOne cl i ds' M) ∧ R (outD i ds') M
theorem roomS {X : Cx} {k j : Nat} {a : Addr} {pn : List (Addr × Obj)} (hr : Room k X.A) (h : j ≤ k) : RoomH j (X.suite a pn).A := ⟨by have := hr.dp; show X.A.depth + 3 * j + 5 < _; omega, by have := hr.un; show X.A.units + 16 * j + 200 < _; omega⟩
section
variable {P : Program} {w : World} {K : PySem.W.Frag} {mg : Str → Option Value} {base : Heap} {cl : Nat → Addr}
theorem b_LcaughtH (B : Bl mg) (Dk : DfH P w K mg base "_law_kin" 1 (cKinH cl)) (Da : DfH P w K mg base "_law_above" 1 fun _ => cAbove) : BodyOkH P w K mg base N_Lcaught ["error", "tag", "fields"] "_law_caught" s_Lcaught 1 (cCaught cl) := by
  intro f cdv A outer s H E p ds M R Z hr hot hl ⟨i, fs, fl, dd, hi, e, hfl, hz, hf, hR⟩
  subst e
  have hu : (XdH P w K mg base N_Lcaught "_law_caught" s_Lcaught f cdv A outer s H E p).A.units + 64 < cLine := by have := hr.un; omega
  have ae := above_eq i hi
  refine ss_one (s1_ret (ex_if (k := true) (tx_w (wx_and (k := true) (k2 := true) (tx_val (ex_isi (T := "str") (d := .str (cnm i)) (isi_S rfl) B.isi B.str (ex_nm 1))) fun _ => wx_and1 (tx_cp (ex_callH Dk hr hot List.mem_cons_self (ax_cons (ex_nm 0) ax_nil) ⟨i, fs, dd, hi, rfl, hz, hf, rfl, rfl⟩) (ex_callH Da hr hot List.mem_cons_self (ax_cons (ex_nm 1) ax_nil) ⟨i, hi, rfl, rfl, rfl⟩) (c_eqSs hu ae.1 ae.1 ae.2)))) (fun _ => ex_bin (ex_tp (ax_cons (ex_nm 1) ax_nil)) (ex_nm 2) (o_catT (by simp; omega))) fun z => absurd z (by simp)) (.of hR))
theorem b_Ltried (B : Bl mg) (C : Cls P K mg cl) {k : Nat} (Dc : DfH P w K mg base "_law_caught" 2 (cCaught cl)) : BodyOk P w K mg base N_Ltried ["call"] "_law_tried" s_Ltried (k + 2) (cTried cl P w K mg base (k + 2)) := by
  intro f cdv A outer s H E ds M R Z hr hl ⟨f1, L, l, vs, i, ds', e, hi, hlen, F, hR⟩
  subst e
  have hi20 : i < 20 := by omega
  refine ss_one (s1_try (css := [[.ref (cl 1), .ref (cl 2)], [.ref (cl 3), .ref (cl 4), .ref (cl 5), .ref (cl 6), .ref (cl 7)], [.ref (cl 11), .ref (cl 18)], [.ref (cl 15)], [.ref (cl 17)]]) 1 (fun G' C' ks fs M' => G' = [some (.fn f1 L l vs), none] ∧ ZOne cl i ds' M C' ks fs M') sc_Ltried.nd ?_ ?_ ?_)
  · refine .cons (test2 ?_ ?_) ?_
    · exact ⟨rfl, by decide, .inl (C.xm 1 (by decide)).mg⟩
    · exact ⟨rfl, by decide, .inl (C.xm 2 (by decide)).mg⟩
    refine .cons (test5 ?_ ?_ ?_ ?_ ?_) ?_
    · exact ⟨rfl, by decide, .inl (C.xm 3 (by decide)).mg⟩
    · exact ⟨rfl, by decide, .inl (C.xm 4 (by decide)).mg⟩
    · exact ⟨rfl, by decide, .inl (C.xm 5 (by decide)).mg⟩
    · exact ⟨rfl, by decide, .inl (C.xm 6 (by decide)).mg⟩
    · exact ⟨rfl, by decide, .inl (C.xm 7 (by decide)).mg⟩
    refine .cons (test2 ?_ ?_) ?_
    · exact ⟨rfl, by decide, .inl (C.xm 11 (by decide)).mg⟩
    · exact ⟨rfl, by decide, .inl (C.xm 18 (by decide)).mg⟩
    refine .cons (test1 ?_) ?_
    · exact ⟨rfl, by decide, .inl (C.xm 15 (by decide)).mg⟩
    refine .cons (test1 ?_) .nil
    exact ⟨rfl, by decide, .inl (C.xm 17 (by decide)).mg⟩
  · intro pn xe hp
    refine ss_one (s1_retZ (ez_tup2 (R' := fun _ _ => False) ex_str (ez_act (j := k + 2) 0 F hr (Nat.le_refl _)) (fun d M' h => h)) (fun d M' h _ => h.elim) fun C' ks fs M' h _ => ?_)
    exact ⟨rfl, h⟩
  · rintro G' C' ks fs M' ⟨rfl, rfl, rfl, rfl, rfl⟩
    have tab := C.ex i hi20
    rcases hi with rfl | rfl | rfl
    · obtain ⟨d, rfl⟩ := List.length_eq_one_iff.mp hlen
      refine ⟨true, (tab [1, 2] (by decide)).trans (by decide +kernel), fun _ a dd oe pn hz hf => ?_, fun z => absurd z (by simp)⟩
      have hV : ExcV ((Xd P w K mg base N_Ltried "_law_tried" s_Ltried f cdv A outer s H E).suite a ((a, oe) :: pn)) (.cau a dd (cl 1) (cks 1) (cfs 1 [d])) (cl 1) (cks 1) (cfs 1 [d]) := excV_cau (oe := oe) List.mem_cons_self hz.zc hf
      exact ss_one (s1_ret (ex_callH (j := 2) (i := 2) Dc (roomS hr (by omega)) (hot_suite hz hf) List.mem_cons_self (ax_cons (ex_nm 1) (ax_cons (ex_fld 1 (C.xf 1 (by decide)) (C.no 1 (by decide) _ (by decide)) hV (ex_nm 1) rfl (by decide) rfl) (ax_cons (ex_tp (ax_cons (ex_fld 0 (C.xf 1 (by decide)) (C.no 1 (by decide) _ (by decide)) hV (ex_nm 1) rfl (by decide) rfl) ax_nil)) ax_nil))) ⟨1, _, [d], dd, by decide, rfl, by simp, hz.zc, hf, rfl, rfl⟩) (.of hR))
    · obtain ⟨d, rfl⟩ := List.length_eq_one_iff.mp hlen
      refine ⟨true, (tab [1, 2] (by decide)).trans (by decide +kernel), fun _ a dd oe pn hz hf => ?_, fun z => absurd z (by simp)⟩
      have hV : ExcV ((Xd P w K mg base N_Ltried "_law_tried" s_Ltried f cdv A outer s H E).suite a ((a, oe) :: pn)) (.cau a dd (cl 2) (cks 2) (cfs 2 [d])) (cl 2) (cks 2) (cfs 2 [d]) := excV_cau (oe := oe) List.mem_cons_self hz.zc hf
      exact ss_one (s1_ret (ex_callH (j := 2) (i := 2) Dc (roomS hr (by omega)) (hot_suite hz hf) List.mem_cons_self (ax_cons (ex_nm 1) (ax_cons (ex_fld 1 (C.xf 2 (by decide)) (C.no 2 (by decide) _ (by decide)) hV (ex_nm 1) rfl (by decide) rfl) (ax_cons (ex_tp (ax_cons (ex_fld 0 (C.xf 2 (by decide)) (C.no 2 (by decide) _ (by decide)) hV (ex_nm 1) rfl (by decide) rfl) ax_nil)) ax_nil))) ⟨2, _, [d], dd, by decide, rfl, by simp, hz.zc, hf, rfl, rfl⟩) (.of hR))
    · match ds', hlen with
      | [d1, d2], _ =>
        refine ⟨false, (tab [1, 2] (by decide)).trans (by decide +kernel), fun z => absurd z (by simp), fun _ => ?_⟩
        refine ⟨false, (tab [3, 4, 5, 6, 7] (by decide)).trans (by decide +kernel), fun z => absurd z (by simp), fun _ => ?_⟩
        refine ⟨false, (tab [11, 18] (by decide)).trans (by decide +kernel), fun z => absurd z (by simp), fun _ => ?_⟩
        refine ⟨false, (tab [15] (by decide)).trans (by decide +kernel), fun z => absurd z (by simp), fun _ => ?_⟩
        refine ⟨true, (tab [17] (by decide)).trans (by decide +kernel), fun _ a dd oe pn hz hf => ?_, fun z => absurd z (by simp)⟩
        have hV : ExcV ((Xd P w K mg base N_Ltried "_law_tried" s_Ltried f cdv A outer s H E).suite a ((a, oe) :: pn)) (.cau a dd (cl 17) (cks 17) (cfs 17 [d1, d2])) (cl 17) (cks 17) (cfs 17 [d1, d2]) := excV_cau (oe := oe) List.mem_cons_self hz.zc hf
        exact ss_one (s1_ret (ex_callH (j := 2) (i := 2) Dc (roomS hr (by omega)) (hot_suite hz hf) List.mem_cons_self (ax_cons (ex_nm 1) (ax_cons (ex_fld 2 (C.xf 17 (by decide)) (C.no 17 (by decide) _ (by decide)) hV (ex_nm 1) rfl (by decide) rfl) (ax_cons (ex_tp (ax_cons (ex_fld 1 (C.xf 17 (by decide)) (C.no 17 (by decide) _ (by decide)) hV (ex_nm 1) rfl (by decide) rfl) (ax_cons (ex_fld 0 (C.xf 17 (by decide)) (C.no 17 (by decide) _ (by decide)) hV (ex_nm 1) rfl (by decide) rfl) ax_nil))) ax_nil))) ⟨17, _, [d1, d2], dd, by decide, rfl, by simp, hz.zc, hf, rfl, rfl⟩) (.of hR))
end
end K1

set_option Elab.async false
set_option linter.all false
set_option maxRecDepth 100000
set_option maxHeartbeats 4000000
set_option exponentiation.threshold 100000
/-! K19: _law_refused, _law_call, _law_sums. -/
namespace K1
open PySem PySem.Spec PyProof.Rows L2 HM TX XN L2H LM L2N
def cRefused (cl : Nat → Addr) (P : Program) (w : World) (K : PySem.W.Frag) (mg : Str → Option Value) (base : Heap) : Ct := fun ds M R _ => ∃ f L l vs i ds', ds = [.fn f L l vs, outD i ds'] ∧ (i = 1 ∨ i = 2 ∨ i = 17) ∧ ds'.length = (cps i).length ∧ LmOk P w K mg base 7 f L l vs M (fun _ _ => False) (ZOne cl i ds' M) ∧ dp 12 (outD i ds') = true ∧ R (.bl true) M
def star (W : Ct) : Ct := fun ds M R Z => W [.tup ds] M R Z
def cCall (cl : Nat → Addr) : Ct := fun ds M R Z => ∃ (n : Nat) (a b c : Dt), ds = [.int (n : Int), a, b, c] ∧ n < 8 ∧ (if n = 0 then cLowest cl [a] M R Z else if n = 1 then cText cl [a] M R Z else if n = 2 then cPlus cl [.tup [a, b, c]] M R Z else if n = 3 then cTimes cl [.tup [a, b, c]] M R Z else if n = 4 then cQuot cl [a, b] M R Z else if n = 5 then cApart cl [a, b] M R Z else if n = 6 then cLess cl [a, b] M R Z else cRaised cl [a, b] M R Z)
/-- the program's defs by their names -/
structure Prg (P : Program) (w : World) (K : PySem.W.Frag) (mg : Str → Option Value) (base : Heap) (cl : Nat → Addr) : Prop where
  lowest : Df P w K mg base "lowest" 5 (cLowest cl)
  text : Df P w K mg base "fraction_text" 5 (cText cl)
  plus : Df P w K mg base "plus" 5 (star (cPlus cl))
  times : Df P w K mg base "times" 5 (star (cTimes cl))
  quotient : Df P w K mg base "quotient" 5 (cQuot cl)
  apart : Df P w K mg base "apart" 5 (cApart cl)
  less : Df P w K mg base "is_less" 5 (cLess cl)
  raised : Df P w K mg base "raised" 5 (cRaised cl)
  read : Df P w K mg base "read_fraction" 5 (cReadF cl)
  least : Df P w K mg base "least_common" 5 cLeast
section
variable {X : Cx} {e : Expr} {es : List Expr} {G : List (Option Dt)} {M M1 : Mst} {ds : List Dt} {pos apos p2 : Pos} {x : Str} {R : Dt → Mst → Prop} {Z : Er}
/-- return f(e, ..), whatever it does -/
theorem s1_retC {j i : Nat} {W : Ct} {G' : List (Option Dt)} {M : Mst} {T : Po} (F : Df X.prog X.w X.K X.mg X.base x j W) (hr : Room i X.A) (ha : AX X (e :: es) G' M ds M) (hw : W ds M R Z) (h1 : ∀ d M', R d M' → dom M' = dom M → T.rt d M' := by exact fun _ _ h hd => Kept.of h hd) (h2 : ∀ C ks fs M', Z C ks fs M' → dom M' = dom M → T.er G' C ks fs M' := by exact fun _ _ _ _ h hd => Kept.of h hd) (hj : j ≤ i := by decide) (hg : Gl X x := by rfl) (hdb : (x == ("__debug__" : Str)) = false := by decide)
    (he : starEach (e :: es) X.env = (false, eval e X.env) :: starEach es X.env := by rfl) (hpl : (backTo pos (starEach es X.env)).any (·.1) = false := by rfl) : S1 X (.Return (some (.Call (.Name x apos) (e :: es) [] pos)) p2) G' M T :=
  s1_retZ (ez_call F hr ha hw hj hg hdb he hpl) h1 h2
end
section
variable {P : Program} {w : World} {K : PySem.W.Frag} {mg : Str → Option Value} {base : Heap} {cl : Nat → Addr}
theorem b_Lrefused (Dt1 : Df P w K mg base "_law_tried" 8 (cTried cl P w K mg base 7)) (Dl : Df P w K mg base "_law_like" 12 (cLike 12)) : BodyOk P w K mg base N_Lrefused ["call", "due"] "_law_refused" s_Lrefused 12 (cRefused cl P w K mg base) := by
  intro f cdv A outer s H E ds M R Z hr hl ⟨f1, L, l, vs, i, ds', e, hi, hlen, F, hdp, hR⟩
  subst e
  exact ss_one (s1_ret (ex_call Dl hr (ax_cons (ex_call Dt1 hr (ax_cons (ex_nm 0) ax_nil) ⟨f1, L, l, vs, i, ds', rfl, hi, hlen, F, rfl, rfl⟩) (ax_cons (ex_nm 1) ax_nil)) ⟨_, rfl, hdp, rfl, rfl⟩) (.of hR))
theorem b_Lcall (Pr : Prg P w K mg base cl) : BodyOk P w K mg base N_Lcall ["which_one", "a", "b", "c"] "_law_call" s_Lcall 5 (cCall cl) := by
  intro f cdv A outer s H E ds M R Z hr hl ⟨n, a, b, c, e, hn, hR⟩
  subst e
  refine ss_cons (s1_if (tx_cp (d2 := .int ((0 : Nat) : Int)) (ex_nm 0) ex_int c_eqN) (fun h => ?_) fun h => ss_nil ?_)
  · rw [if_pos (of_decide_eq_true h)] at hR
    exact ss_one (s1_retC Pr.lowest hr (ax_cons (ex_nm 1) ax_nil) hR)
  rw [if_neg (of_decide_eq_false h)] at hR
  refine ss_cons (s1_if (tx_cp (d2 := .int ((1 : Nat) : Int)) (ex_nm 0) ex_int c_eqN) (fun h => ?_) fun h => ss_nil ?_)
  · rw [if_pos (of_decide_eq_true h)] at hR
    exact ss_one (s1_retC Pr.text hr (ax_cons (ex_nm 1) ax_nil) hR)
  rw [if_neg (of_decide_eq_false h)] at hR
  refine ss_cons (s1_if (tx_cp (d2 := .int ((2 : Nat) : Int)) (ex_nm 0) ex_int c_eqN) (fun h => ?_) fun h => ss_nil ?_)
  · rw [if_pos (of_decide_eq_true h)] at hR
    exact ss_one (s1_retC Pr.plus hr (ax_cons (ex_nm 1) (ax_cons (ex_nm 2) (ax_cons (ex_nm 3) ax_nil))) hR)
  rw [if_neg (of_decide_eq_false h)] at hR
  refine ss_cons (s1_if (tx_cp (d2 := .int ((3 : Nat) : Int)) (ex_nm 0) ex_int c_eqN) (fun h => ?_) fun h => ss_nil ?_)
  · rw [if_pos (of_decide_eq_true h)] at hR
    exact ss_one (s1_retC Pr.times hr (ax_cons (ex_nm 1) (ax_cons (ex_nm 2) (ax_cons (ex_nm 3) ax_nil))) hR)
  rw [if_neg (of_decide_eq_false h)] at hR
  refine ss_cons (s1_if (tx_cp (d2 := .int ((4 : Nat) : Int)) (ex_nm 0) ex_int c_eqN) (fun h => ?_) fun h => ss_nil ?_)
  · rw [if_pos (of_decide_eq_true h)] at hR
    exact ss_one (s1_retC Pr.quotient hr (ax_cons (ex_nm 1) (ax_cons (ex_nm 2) ax_nil)) hR)
  rw [if_neg (of_decide_eq_false h)] at hR
  refine ss_cons (s1_if (tx_cp (d2 := .int ((5 : Nat) : Int)) (ex_nm 0) ex_int c_eqN) (fun h => ?_) fun h => ss_nil ?_)
  · rw [if_pos (of_decide_eq_true h)] at hR
    exact ss_one (s1_retC Pr.apart hr (ax_cons (ex_nm 1) (ax_cons (ex_nm 2) ax_nil)) hR)
  rw [if_neg (of_decide_eq_false h)] at hR
  refine ss_cons (s1_if (tx_cp (d2 := .int ((6 : Nat) : Int)) (ex_nm 0) ex_int c_eqN) (fun h => ?_) fun h => ss_nil ?_)
  · rw [if_pos (of_decide_eq_true h)] at hR
    exact ss_one (s1_retC Pr.less hr (ax_cons (ex_nm 1) (ax_cons (ex_nm 2) ax_nil)) hR)
  rw [if_neg (of_decide_eq_false h)] at hR
  exact ss_one (s1_retC Pr.raised hr (ax_cons (ex_nm 1) (ax_cons (ex_nm 2) ax_nil)) hR)
end
end K1

set_option Elab.async false
set_option linter.all false
set_option maxRecDepth 100000
set_option maxHeartbeats 4000000
set_option exponentiation.threshold 100000
/-! K20: _law_sums. -/
namespace K1
open PySem PySem.Spec PyProof.Rows L2 HM TX XN L2H LM L2N
/-- a fraction of bounded size -/
def Fit (d : Dt) : Prop := isFr d = true ∧ Sz 200 (frN d)
theorem Fit.frs {d : Dt} (h : Fit d) : FrS 200 d := fun _ => h.2
theorem orBad_ok {cl : Nat → Addr} {l : List Dt} {Z : Er} {M : Mst} {o : Prop} (h : ∀ d ∈ l, isFr d = true) (q : o) : orBad cl l Z M o := by
  unfold orBad
  rw [badF_none.mpr h]
  exact q
theorem plus_ok {cl : Nat → Addr} {l : List Dt} {M : Mst} {R : Dt → Mst → Prop} {Z : Er} (hl : l.length ≤ 5) (h : ∀ d ∈ l, Fit d) (q : R (pr (total (l.map red))) M) : star (cPlus cl) l M R Z :=
  ⟨l, rfl, hl, List.all_eq_true.mpr fun d hd => isFr.okd (h d hd).1, fun d hd => (h d hd).frs, orBad_ok (fun d hd => (h d hd).1) q⟩
theorem times_ok {cl : Nat → Addr} {l : List Dt} {M : Mst} {R : Dt → Mst → Prop} {Z : Er} (hl : l.length ≤ 5) (h : ∀ d ∈ l, Fit d) (q : R (pr (prodN (l.map red))) M) : star (cTimes cl) l M R Z :=
  ⟨l, rfl, hl, List.all_eq_true.mpr fun d hd => isFr.okd (h d hd).1, fun d hd => (h d hd).frs, orBad_ok (fun d hd => (h d hd).1) q⟩
theorem dp_pr {n : Nat} (p : Nat × Nat) : dp (n + 2) (pr p) = true := rfl
theorem dp_prs {n : Nat} {l : List (Nat × Nat)} (h : l.length ≤ 1000) : dp (n + 3) (.lst (l.map pr)) = true := by
  show ((l.map pr).all (dp (n + 2)) && decide ((l.map pr).length ≤ 1000)) = true
  rw [List.length_map, decide_eq_true h, Bool.and_true]
  exact List.all_eq_true.mpr fun d hd => by
    obtain ⟨p, _, rfl⟩ := List.mem_map.mp hd
    exact dp_pr p
def cSums : Ct := fun ds M R _ => ∃ (d0 a b c d f : Dt), ds = [d0, .lst [a, b, c, d, f]] ∧ (∀ x ∈ [a, b, c, d, f], Fit x) ∧ R (.bl true) M
/-- the partial products -/
def prods (l : List (Nat × Nat)) : List (Nat × Nat) := (List.range (l.length + 1)).map fun k => prodN (l.take k)
section
variable {P : Program} {w : World} {K : PySem.W.Frag} {mg : Str → Option Value} {base : Heap} {cl : Nat → Addr}
theorem b_Lsums (B : Bl mg) (Pr : Prg P w K mg base cl) (Dx : Df P w K mg base "_law_fixed" 2 cFixed) (Dt1 : Df P w K mg base "_law_total" 3 cTotal) (Dy : Df P w K mg base "_law_by" 2 (cPair2 4000 fun p q => pr (byN p q))) (Dl : Df P w K mg base "_law_like" 12 (cLike 12)) :
    BodyOk P w K mg base N_Lsums ["box", "items"] "_law_sums" s_Lsums 12 cSums := by
  intro f0 cdv A outer s H E ds M R Z hr hl ⟨d0, a, b, c, d, f, e, hF, hR⟩
  subst e
  have fa := hF a (by simp)
  have fb := hF b (by simp)
  have fc := hF c (by simp)
  have fd := hF d (by simp)
  have ff := hF f (by simp)
  have hlen5 : [a, b, c, d, f].length = 5 := rfl
  have fix : ∀ x, Fit x → 0 < (red x).2 ∧ Sz 200 (red x) := fun x h => ⟨(Red.red h.1).1, Sz.red h.2⟩
  refine ss_cons (s1_set 2 sc_Lsums.nd (d := .lst (([a, b, c, d, f].map red).map pr)) (EE.is (ex_lcMap 3 (fun x => pr (red x)) rfl sc_Lsums.nd (ix_lst (ex_nm 1)) (by exact (show BlkOk N_Lsums (defScope s_Lsums) _ [("item", 3)] from ⟨rfl, by decide +kernel, by decide +kernel, by decide +kernel, by decide +kernel⟩)) (by simp) fun x hx s H C cl fp => ?_) rfl) ?_)
  · have h := hF x hx
    exact ex_call Dx hr (ax_cons (ex_nm 3) ax_nil) ⟨x, rfl, h.1, gs h.1 h.frs, rfl, rfl⟩
  refine ss_cons (s1_asg (ex_tp (ax_cons (ex_at (ex_nm 1) ex_int (i_lst (n := 0) rfl)) (ax_cons (ex_at (ex_nm 1) ex_int (i_lst (n := 1) rfl)) (ax_cons (ex_at (ex_nm 1) ex_int (i_lst (n := 2) rfl)) (ax_cons (ex_at (ex_nm 1) ex_int (i_lst (n := 3) rfl)) (ax_cons (ex_at (ex_nm 1) ex_int (i_lst (n := 4) rfl)) ax_nil))))))
    (gx_tup rfl (gxs_cons (gx_nm 4 sc_Lsums.nd) (gxs_cons (gx_nm 5 sc_Lsums.nd) (gxs_cons (gx_nm 6 sc_Lsums.nd) (gxs_cons (gx_nm 7 sc_Lsums.nd) (gxs_cons (gx_nm 8 sc_Lsums.nd) gxs_nil)))))) ?_)
  have go : ∀ {l : List Dt}, l.length ≤ 5 → (∀ x ∈ l, Fit x) → star (cPlus cl) l M (fun d' M' => d' = pr (total (l.map red)) ∧ M' = M) E00 := fun hl h => plus_ok hl h ⟨rfl, rfl⟩
  have gt : ∀ {l : List Dt}, l.length ≤ 5 → (∀ x ∈ l, Fit x) → star (cTimes cl) l M (fun d' M' => d' = pr (prodN (l.map red)) ∧ M' = M) E00 := fun hl h => times_ok hl h ⟨rfl, rfl⟩
  refine ss_cons (s1_set 9 sc_Lsums.nd (ex_ls (ax_cons (ex_call0 Pr.plus hr (go (l := []) (by simp) (by simp))) (ax_cons (ex_call Pr.plus hr (ax_cons (ex_nm 4) ax_nil) (go (l := [a]) (by simp) (by simp [fa]))) (ax_cons (ex_call Pr.plus hr (ax_cons (ex_nm 4) (ax_cons (ex_nm 5) ax_nil)) (go (l := [a, b]) (by simp) (by simp [fa, fb]))) (ax_cons (ex_call Pr.plus hr (ax_cons (ex_nm 4) (ax_cons (ex_nm 5) (ax_cons (ex_nm 6) ax_nil))) (go (l := [a, b, c]) (by simp) (by simp [fa, fb, fc])))
    (ax_cons (ex_call Pr.plus hr (ax_cons (ex_nm 4) (ax_cons (ex_nm 5) (ax_cons (ex_nm 6) (ax_cons (ex_nm 7) ax_nil)))) (go (l := [a, b, c, d]) (by simp) (by simp [fa, fb, fc, fd]))) (ax_cons (ex_call Pr.plus hr (ax_cons (ex_nm 4) (ax_cons (ex_nm 5) (ax_cons (ex_nm 6) (ax_cons (ex_nm 7) (ax_cons (ex_nm 8) ax_nil))))) (go (l := [a, b, c, d, f]) (by simp) (by simp [fa, fb, fc, fd, ff]))) ax_nil))))))) ?_)
  refine ss_cons (s1_if (k := false) (tx_not (k := true) (tx_val (ex_call Dl hr (ax_cons (ex_nm 9) (ax_cons (d := .lst ((List.range 6).map fun k => pr (total (([a, b, c, d, f].map red).take k)))) (EE.is (ex_lcMap 10 (fun x => match x with | .int k => pr (total (([a, b, c, d, f].map red).take k.toNat)) | x => x) rfl sc_Lsums.nd (ix_range B.range (ax_cons ex_int ax_nil) (by decide)) (by exact (show BlkOk N_Lsums (defScope s_Lsums) _ [("k", 10)] from ⟨rfl, by decide +kernel, by decide +kernel, by decide +kernel, by decide +kernel⟩)) (by decide) fun x hx s H C cl fp => ?_) rfl) ax_nil)) ⟨_, rfl, ?_, rfl, rfl⟩))) (fun z => absurd z (by simp)) fun _ => ss_nil ?_)
  · obtain ⟨k, hk, rfl⟩ := mem_rng hx
    refine ex_call Dt1 hr (ax_cons (EE.is (ex_slL (n := k) (ex_nm 2) (px_some (ex_nm 10))) (congrArg Dt.lst List.map_take.symm)) ax_nil) ⟨([a, b, c, d, f].map red).take k, rfl, ?_, fun p hp => ?_, rfl, rfl⟩
    · rw [List.length_take]
      simp
      omega
    · obtain ⟨x, hx, rfl⟩ := List.mem_map.mp (List.mem_of_mem_take hp)
      exact fix x (hF x hx)
  · rfl
  refine ss_cons (s1_newL 11 sc_Lsums.nd (ax_cons (d := pr (1, 1)) (ex_tp (ax_cons ex_int (ax_cons ex_int ax_nil))) ax_nil) (fun p hp => ?_) (by simp))
  refine ss_cons (s1_for (fun i G' M' => M' = (p, .l ((prods (([a, b, c, d, f].map red).take i)).map pr)) :: M ∧ ∃ o, G' = [some d0, some (.lst [a, b, c, d, f]), some (.lst (([a, b, c, d, f].map red).map pr)), none, some a, some b, some c, some d, some f, some (.lst [pr (total ([].map red)), pr (total ([a].map red)), pr (total ([a, b].map red)), pr (total ([a, b, c].map red)), pr (total ([a, b, c, d].map red)), pr (total ([a, b, c, d, f].map red))]), none, some (.raw (.ref p)), o])
    (ix_lst (ex_nm 2)) rfl ⟨rfl, none, rfl⟩ ?_ ?_ (fun i G' M' h => by rw [h.1]; rfl) PassesOwn.leaving)
  · rintro i x G' M' hi ⟨rfl, o, rfl⟩
    obtain ⟨q, hq, rfl⟩ := get_map hi
    have hi5 : i < 5 := by
      have := (List.getElem?_eq_some_iff.mp hq).1
      simpa using this
    have hl : (([a, b, c, d, f].map red).take i).length = i := by
      rw [List.length_take]
      simp
      omega
    have hpl : (prods (([a, b, c, d, f].map red).take i)).length = i + 1 := by
      unfold prods
      rw [List.length_map, List.length_range, hl]
    have hqf : 0 < q.2 ∧ Sz 200 q := by
      obtain ⟨x, hx, rfl⟩ := List.mem_map.mp (List.mem_of_getElem? hq)
      exact fix x (hF x hx)
    have hlast : (prods (([a, b, c, d, f].map red).take i))[i]? = some (prodN (([a, b, c, d, f].map red).take i)) := by
      unfold prods
      rw [List.getElem?_map, hl, List.getElem?_range (by omega)]
      show some (prodN (List.take i _)) = _
      rw [List.take_take, Nat.min_self]
    have pR : Red (prodN (([a, b, c, d, f].map red).take i)) := prodN_red _ _ ⟨by decide, by decide⟩ fun y hy => by
      obtain ⟨x, hx, rfl⟩ := List.mem_map.mp (List.mem_of_mem_take hy)
      exact (fix x (hF x hx)).1
    have pS : Sz 4000 (prodN (([a, b, c, d, f].map red).take i)) := by
      rw [← List.map_take]
      have := prodN_le (k := 0) ([a, b, c, d, f].take i) (fun x hx => (hF x (List.mem_of_mem_take hx)).1) (fun x hx => (hF x (List.mem_of_mem_take hx)).frs) (1, 1) ⟨by decide, by decide⟩
      refine Sz.mono this ?_
      have : ([a, b, c, d, f].take i).length ≤ 5 := by rw [List.length_take]; simp; omega
      omega
    have hstep : prods (([a, b, c, d, f].map red).take (i + 1)) = prods (([a, b, c, d, f].map red).take i) ++ [byN (prodN (([a, b, c, d, f].map red).take i)) q] := by
      unfold prods
      have hl1 : (([a, b, c, d, f].map red).take (i + 1)).length = i + 1 := by
        rw [List.length_take]
        simp
        omega
      rw [hl, hl1, List.range_succ, List.map_append]
      congr 1
      · apply List.map_congr_left
        intro k hk
        have hk : k < i + 1 := List.mem_range.mp hk
        rw [List.take_take, List.take_take]
        congr 2
        omega
      · show [prodN (List.take (i + 1) _)] = _
        rw [List.take_take, Nat.min_self, take_snoc hq, prodN_snoc]
    refine ⟨_, gx_nm 12 sc_Lsums.nd, ?_⟩
    refine ss_one (s1_expr (ex_append (ds := (prods (([a, b, c, d, f].map red).take i)).map pr) (ds0 := (prods (([a, b, c, d, f].map red).take i)).map pr) (ex_nm 11) (ex_call Dy hr (ax_cons (ex_atM (n := i) (ds := (prods (([a, b, c, d, f].map red).take i)).map pr) (d := pr (prodN (([a, b, c, d, f].map red).take i))) (ex_nm 11) (EE.is (ex_bin (ex_lenM (ds := (prods (([a, b, c, d, f].map red).take i)).map pr) B.len (ex_nm 11)) ex_int o_sub) (by rw [List.length_map, hpl]; congr 1; omega)) (by rw [List.getElem?_map, hlast]; rfl)) (ax_cons (ex_nm 12) ax_nil)) ⟨_, q, rfl, pR.1, hqf.1, pS, Sz.mono hqf.2 (by decide), rfl, rfl⟩) (by rw [List.length_map, hpl]; omega) List.mem_cons_self) ?_)
    refine ⟨?_, some (pr q), rfl⟩
    rw [hstep, List.map_append]
    rfl
  · rintro G' M' ⟨rfl, o, rfl⟩
    refine ss_freeze 11 rfl ?_
    refine ss_one (s1_ret (ex_call Dl hr (ax_cons (ex_ls (ax_cons (ex_call0 Pr.times hr (gt (l := []) (by simp) (by simp))) (ax_cons (ex_call Pr.times hr (ax_cons (ex_nm 4) ax_nil) (gt (l := [a]) (by simp) (by simp [fa]))) (ax_cons (ex_call Pr.times hr (ax_cons (ex_nm 4) (ax_cons (ex_nm 5) ax_nil)) (gt (l := [a, b]) (by simp) (by simp [fa, fb]))) (ax_cons (ex_call Pr.times hr (ax_cons (ex_nm 4) (ax_cons (ex_nm 5) (ax_cons (ex_nm 6) ax_nil))) (gt (l := [a, b, c]) (by simp) (by simp [fa, fb, fc])))
      (ax_cons (ex_call Pr.times hr (ax_cons (ex_nm 4) (ax_cons (ex_nm 5) (ax_cons (ex_nm 6) (ax_cons (ex_nm 7) ax_nil)))) (gt (l := [a, b, c, d]) (by simp) (by simp [fa, fb, fc, fd]))) (ax_cons (ex_call Pr.times hr (ax_cons (ex_nm 4) (ax_cons (ex_nm 5) (ax_cons (ex_nm 6) (ax_cons (ex_nm 7) (ax_cons (ex_nm 8) ax_nil))))) (gt (l := [a, b, c, d, f]) (by simp) (by simp [fa, fb, fc, fd, ff]))) ax_nil))))))) (ax_cons (ex_nm 11) ax_nil)) ⟨_, rfl, ?_, rfl, rfl⟩) (.of hR))
    rfl
end
end K1

set_option Elab.async false
set_option linter.all false
set_option maxRecDepth 100000
set_option maxHeartbeats 4000000
/-! CM5: name = [..] on one line, the name a local. -/
namespace HM
open PySem PySem.Spec PyProof.Rows L2 HTN L2H
section
variable {X : Cx} {iter elt c : Expr} {scope : Scope} {G : List (Option Dt)} {M M1 M' : Mst} {ds out : List Dt} {pos px py spos : Pos} {x y : Str} {T : Po}
theorem s1_lcI (i q : Nat) (hc : X.calm = true) (hN : X.N.Nodup) (hi : IX X (.Name x px) iter G M ds M1) (ok : BlkOk X.N X.env.scope scope [(x, i)]) (I : Nat → Mst → List Dt → Prop) (h0 : I 0 M1 []) (hdom : ∀ i Mi acc, I i Mi acc → dom Mi = dom M ∧ acc.length ≤ 100000)
    (hs : ∀ (j : Nat) d Mi acc, ds[j]? = some d → I j Mi acc → ∃ d' M2, (∀ s H C cl fp, EX (Xb X scope s H C cl fp) elt (G.set i (some d)) Mi d' M2) ∧ I (j + 1) M2 (acc ++ [d'])) (hd : ∀ Mn acc, I ds.length Mn acc → Mn = M' ∧ acc = out) (hM' : dom M' = dom M) (hnx : T.nx (G.set q (some (.lst out))) M')
    (hx : ∀ s H C cl fp, Loc (Xb X scope s H C cl fp).env.scope x := by intro _ _ _ _ _; exact Or.inl rfl) (hf : ∀ s H C cl fp, (Xb X scope s H C cl fp).fn x = true ∨ (Xb X scope s H C cl fp).env.scope.names.lookup x = some .local := by intro _ _ _ _ _; exact Or.inr rfl)
    (hXi : X.N[i]? = some x := by rfl) (hXq : X.N[q]? = some y := by rfl) (hyl : X.env.scope.names.lookup y = some .local := by rfl) (hsl : swapsWith (.ListComp elt [⟨.Name x px, iter, [], 0⟩] scope pos) (some (.Name y py)) spos.line X.env = pure true := by rfl) (hsw : ∀ x, foldedSetIterable iter X.env x = pure x := by intro _; rfl) :
    S1 X (.Assign [.Name y py] (.ListComp elt [⟨.Name x px, iter, [], 0⟩] scope pos) spos) G M T := fun B σ H D hD hE ⟨F, g0, s0, r0, m0⟩ => by
  obtain ⟨hd1, wi, pi, hi⟩ := hi
  refine w_s (ps_setLc (own := [(x, i)]) (wi := wi) (g := gAll X scope (.Name x px)) (tt := tYes) (te := eAll X scope elt) hc hN hXq hyl hsl pi ok (fun s H C cl fp => ⟨fun pins s1 σ H1 v u Q I r h => h s H C cl fp pins s1 u I r⟩) (fun s H C cl fp => pts_nil) (fun s H C cl fp => ⟨fun pins s1 σ H1 Q I h => h s H C cl fp pins s1 I⟩) hsw) ?_
  refine (lc_read (M' := M') (out := out) hd1 hi I h0 hdom (fun j d Mi acc hj hI => ?_) hd hM').2 σ F H _ r0 s0 fun v F1 H1 g1 s1 r1 => hD.nx _ M' _ H1 hnx (Now.go g0 m0 hM' g1 s1 ((r0.mono g1.sub).set r1 q))
  obtain ⟨d', M2, he, hI2⟩ := hs j d Mi acc hj hI
  exact ⟨_, true, Mi, gv_nm hN hXi hx hf, ⟨rfl, fun σ F H Q r s q => q F H (Gr.refl _ _ _) s⟩, fun _ => ⟨d', M2, ⟨(hdom _ _ _ hI2).1.trans (hdom _ _ _ hI).1.symm, fun σ F H Q r s q s1 H1 C cl fp => (he s1 H1 C cl fp).2 σ F H Q r s q⟩, hI2⟩, fun z => absurd z (by simp)⟩
/-- y = [elt for x in iter if c], where nothing changes -/
theorem s1_lcFil (i q : Nat) (f : Dt → Dt) (p : Dt → Bool) (hc : X.calm = true) (hN : X.N.Nodup) (hi : IX X (.Name x px) iter G M ds M) (ok : BlkOk X.N X.env.scope scope [(x, i)]) (hlen : ds.length ≤ 100000)
    (ht : ∀ d ∈ ds, ∀ s H C cl fp, TX (Xb X scope s H C cl fp) c (G.set i (some d)) M (p d) M) (hs : ∀ d ∈ ds, ∀ s H C cl fp, EX (Xb X scope s H C cl fp) elt (G.set i (some d)) M (f d) M) (hnx : T.nx (G.set q (some (.lst ((ds.filter p).map f)))) M)
    (hx : ∀ s H C cl fp, Loc (Xb X scope s H C cl fp).env.scope x := by intro _ _ _ _ _; exact Or.inl rfl) (hf : ∀ s H C cl fp, (Xb X scope s H C cl fp).fn x = true ∨ (Xb X scope s H C cl fp).env.scope.names.lookup x = some .local := by intro _ _ _ _ _; exact Or.inr rfl)
    (hXi : X.N[i]? = some x := by rfl) (hXq : X.N[q]? = some y := by rfl) (hyl : X.env.scope.names.lookup y = some .local := by rfl) (hsl : swapsWith (.ListComp elt [⟨.Name x px, iter, [c], 0⟩] scope pos) (some (.Name y py)) spos.line X.env = pure true := by rfl) (hsw : ∀ x, foldedSetIterable iter X.env x = pure x := by intro _; rfl) :
    S1 X (.Assign [.Name y py] (.ListComp elt [⟨.Name x px, iter, [c], 0⟩] scope pos) spos) G M T := fun B σ H D hD hE ⟨F, g0, s0, r0, m0⟩ => by
  obtain ⟨hd1, wi, pi, hi⟩ := hi
  refine w_s (ps_setLc (own := [(x, i)]) (wi := wi) (g := gAll X scope (.Name x px)) (tt := tAll X scope c) (te := eAll X scope elt) hc hN hXq hyl hsl pi ok (fun s H C cl fp => ⟨fun pins s1 σ H1 v u Q I r h => h s H C cl fp pins s1 u I r⟩) (fun s H C cl fp => pts_one ⟨fun pins s1 σ H1 Q I h => h s H C cl fp pins s1 I⟩) (fun s H C cl fp => ⟨fun pins s1 σ H1 Q I h => h s H C cl fp pins s1 I⟩) hsw) ?_
  refine (lc_read (M' := M) (out := (ds.filter p).map f) hd1 hi (fun j Mi acc => Mi = M ∧ acc = ((ds.take j).filter p).map f) ⟨rfl, rfl⟩ (fun j Mi acc ⟨e1, e2⟩ => ⟨by rw [e1], by
      rw [e2, List.length_map]
      have := List.length_filter_le p (ds.take j)
      rw [List.length_take] at this
      omega⟩) (fun j d Mi acc hj hI => ?_) (fun Mn acc ⟨e1, e2⟩ => ⟨e1, by rw [e2, List.take_length]⟩) rfl).2 σ F H _ r0 s0 fun v F1 H1 g1 s1 r1 => hD.nx _ M _ H1 hnx (Now.go g0 m0 rfl g1 s1 ((r0.mono g1.sub).set r1 q))
  obtain ⟨e1, e2⟩ := hI
  subst e1
  have hm := List.mem_of_getElem? hj
  refine ⟨_, p d, Mi, gv_nm hN hXi hx hf, ⟨rfl, fun σ F H Q r s q s1 H1 C cl fp => (ht d hm s1 H1 C cl fp).2 σ F H Q r s q⟩, fun hb => ⟨f d, Mi, ⟨rfl, fun σ F H Q r s q s1 H1 C cl fp => (hs d hm s1 H1 C cl fp).2 σ F H Q r s q⟩, rfl, ?_⟩, fun hb => ⟨rfl, ?_⟩⟩
  · rw [e2, take_snoc hj, List.filter_append, List.map_append]
    simp [hb]
  · rw [e2, take_snoc hj, List.filter_append]
    simp [hb]
end
end HM

set_option Elab.async false
set_option linter.all false
set_option maxRecDepth 100000
set_option maxHeartbeats 4000000
set_option exponentiation.threshold 100000
/-! K21: keyword calls of the program's defs; _law_common. -/
namespace K1
open PySem PySem.Spec PyProof.Rows L2 HM TX XN L2H LM L2N
theorem kb_lowest : KB s_lowest ["value"] ["value"] g1 := fun y qual kV doc pm an cdv ct ws h => by
  match ws, h with
  | [w], _ => rfl
theorem kb_text : KB s_fraction_text ["value"] ["value"] g1 := fun y qual kV doc pm an cdv ct ws h => by
  match ws, h with
  | [w], _ => rfl
theorem kb_read : KB s_read_fraction ["text"] ["text"] g1 := fun y qual kV doc pm an cdv ct ws h => by
  match ws, h with
  | [w], _ => rfl
theorem kb_least : KB s_least_common ["numbers"] ["numbers"] g1 := fun y qual kV doc pm an cdv ct ws h => by
  match ws, h with
  | [w], _ => rfl
theorem kb_quotient : KB s_quotient ["one", "other"] ["other", "one"] g2 := fun y qual kV doc pm an cdv ct ws h => by
  match ws, h with
  | [w, w2], _ => rfl
theorem kb_apart : KB s_apart ["one", "other"] ["other", "one"] g2 := fun y qual kV doc pm an cdv ct ws h => by
  match ws, h with
  | [w, w2], _ => rfl
theorem kb_less : KB s_is_less ["one", "other"] ["other", "one"] g2 := fun y qual kV doc pm an cdv ct ws h => by
  match ws, h with
  | [w, w2], _ => rfl
theorem kb_raised : KB s_raised ["one", "n"] ["n", "one"] g2 := fun y qual kV doc pm an cdv ct ws h => by
  match ws, h with
  | [w, w2], _ => rfl
structure PrgK (P : Program) (w : World) (K : PySem.W.Frag) (mg : Str → Option Value) (base : Heap) (cl : Nat → Addr) : Prop where
  lowest : DfK P w K mg base "lowest" ["value"] s_lowest 5 (cLowest cl)
  text : DfK P w K mg base "fraction_text" ["value"] s_fraction_text 5 (cText cl)
  quotient : DfK P w K mg base "quotient" ["one", "other"] s_quotient 5 (cQuot cl)
  apart : DfK P w K mg base "apart" ["one", "other"] s_apart 5 (cApart cl)
  less : DfK P w K mg base "is_less" ["one", "other"] s_is_less 5 (cLess cl)
  raised : DfK P w K mg base "raised" ["one", "n"] s_raised 5 (cRaised cl)
  read : DfK P w K mg base "read_fraction" ["text"] s_read_fraction 5 (cReadF cl)
  least : DfK P w K mg base "least_common" ["numbers"] s_least_common 5 cLeast
theorem rep_g1 {K : PySem.W.Frag} {F : Hp} {ds : List Dt} {vs : List V} (h : Reps K F ds vs) : Reps K F (g1 ds) (g1 vs) := h
theorem rep_g2 {K : PySem.W.Frag} {F : Hp} {ds : List Dt} {vs : List V} (h : Reps K F ds vs) : Reps K F (g2 ds) (g2 vs) := Reps.rev h
theorem len_g1 (α : Type) (l : List α) : (g1 l).length = l.length := rfl
theorem len_g2 (α : Type) (l : List α) : (g2 l).length = l.length := List.length_reverse
section
variable {X : Cx} {e e1 e2 : Expr} {G : List (Option Dt)} {M M1 M2 : Mst} {d d1 d2 d' : Dt} {pos apos kp kp1 kp2 : Pos} {x n1 n2 : Str} {p1 p2 : Str} {W : Ct} {st : Stmt} {j i : Nat}
/-- x(p = e) -/
theorem ex_k1 (D : DfK X.prog X.w X.K X.mg X.base x [p1] st j W) (hkb : KB st [p1] [p1] g1) (hr : Room i X.A) (he : EX X e G M d M1) (hW : ∀ ds M R Z, W ds M R Z → ds.length = 1) (hw : W [d] M1 (fun d'' M' => d'' = d' ∧ M' = M2) E00) (hd : dom M2 = dom M1 := by rfl) (hj : j ≤ i := by decide) (hg : Gl X x := by rfl)
    (hall : (backToKw pos (keywordEach [⟨some p1, e, kp⟩] X.env)).all (·.1.isSome) = true := by rfl) (hks : (backToKw pos (keywordEach [⟨some p1, e, kp⟩] X.env)).filterMap (·.1) = [p1] := by rfl)
    (hdb : (x == ("__debug__" : Str)) = false := by decide) (hpl : ((backTo pos (starEach [] X.env)).any (·.1) || (backToKw pos (keywordEach [⟨some p1, e, kp⟩] X.env)).any (·.1.isNone)) = false := by rfl) : EX X (.Call (.Name x apos) [] [⟨some p1, e, kp⟩] pos) G M d' M2 :=
  ex_callK D hr hkb (kx_cons he kx_nil) vals_g1 len_g1 rep_g1 hW hw hd hj hg hall hks hdb hpl
/-- x(p2 = e2, p1 = e1) -/
theorem ex_k2 (D : DfK X.prog X.w X.K X.mg X.base x [p1, p2] st j W) (hkb : KB st [p1, p2] [p2, p1] g2) (hr : Room i X.A) (he2 : EX X e2 G M d2 M1) (he1 : EX X e1 G M1 d1 M1) (hW : ∀ ds M R Z, W ds M R Z → ds.length = 2) (hw : W [d1, d2] M1 (fun d'' M' => d'' = d' ∧ M' = M2) E00) (hd : dom M2 = dom M1 := by rfl) (hj : j ≤ i := by decide) (hg : Gl X x := by rfl)
    (hall : (backToKw pos (keywordEach [⟨some p2, e2, kp2⟩, ⟨some p1, e1, kp1⟩] X.env)).all (·.1.isSome) = true := by rfl) (hks : (backToKw pos (keywordEach [⟨some p2, e2, kp2⟩, ⟨some p1, e1, kp1⟩] X.env)).filterMap (·.1) = [p2, p1] := by rfl)
    (hdb : (x == ("__debug__" : Str)) = false := by decide) (hpl : ((backTo pos (starEach [] X.env)).any (·.1) || (backToKw pos (keywordEach [⟨some p2, e2, kp2⟩, ⟨some p1, e1, kp1⟩] X.env)).any (·.1.isNone)) = false := by rfl) : EX X (.Call (.Name x apos) [] [⟨some p2, e2, kp2⟩, ⟨some p1, e1, kp1⟩] pos) G M d' M2 :=
  ex_callK D hr hkb (kx_cons he2 (kx_cons he1 kx_nil)) vals_g2 len_g2 rep_g2 hW hw hd hj hg hall hks hdb hpl
/-- _law_draw(box, e), where e draws too -/
theorem ex_drawM {p : Addr} {b b' : Bx} {M0 : Mst} {size : Int} {q1 q2 : Pos} (D : Df X.prog X.w X.K X.mg X.base "_law_draw" 1 cDraw) (hr : Room i X.A) (hb : Bd 1000000 b') (he1 : EX X e1 G ((p, .l b.cells) :: M0) (.raw (.ref p)) ((p, .l b.cells) :: M0)) (he2 : EX X e2 G ((p, .l b.cells) :: M0) (.int size) ((p, .l b'.cells) :: M0)) (hs0 : 0 < size) (hs : size < 2 ^ 8000)
    (hi : 1 ≤ i := by decide) (hgl : Gl X "_law_draw" := by rfl) (hs1 : starEach [e1, e2] X.env = (false, eval e1 X.env) :: starEach [e2] X.env := by rfl) (hs2 : starEach [e2] X.env = (false, eval e2 X.env) :: starEach [] X.env := by rfl) (hpl : (backTo q2 (starEach [e2] X.env)).any (·.1) = false := by rfl) :
    EX X (.Call (.Name "_law_draw" q1) [e1, e2] [] q2) G ((p, .l b.cells) :: M0) (.int (draw b' size).1) ((p, .l (draw b' size).2.cells) :: M0) :=
  ex_call D hr (ax_cons he1 (ax_cons he2 ax_nil hs2) hs1) ⟨p, b', size, M0, rfl, rfl, hb, hs0, hs, rfl, rfl⟩ rfl hi hgl (by decide) hs1 hpl
end
theorem len_lowest {cl : Nat → Addr} : ∀ ds M R Z, cLowest cl ds M R Z → ds.length = 1 := fun ds M R Z ⟨_, e, _⟩ => by rw [e]; rfl
theorem len_text {cl : Nat → Addr} : ∀ ds M R Z, cText cl ds M R Z → ds.length = 1 := fun ds M R Z ⟨_, e, _⟩ => by rw [e]; rfl
theorem len_readF {cl : Nat → Addr} : ∀ ds M R Z, cReadF cl ds M R Z → ds.length = 1 := fun ds M R Z ⟨_, e, _⟩ => by rw [e]; rfl
theorem len_least : ∀ ds M R Z, cLeast ds M R Z → ds.length = 1 := fun ds M R Z ⟨_, e, _⟩ => by rcases e with e | e <;> (rw [e]; rfl)
theorem len_quot {cl : Nat → Addr} : ∀ ds M R Z, cQuot cl ds M R Z → ds.length = 2 := fun ds M R Z ⟨_, _, e, _⟩ => by rw [e]; rfl
theorem len_apart {cl : Nat → Addr} : ∀ ds M R Z, cApart cl ds M R Z → ds.length = 2 := fun ds M R Z ⟨_, _, e, _⟩ => by rw [e]; rfl
theorem len_less {cl : Nat → Addr} : ∀ ds M R Z, cLess cl ds M R Z → ds.length = 2 := fun ds M R Z ⟨_, _, e, _⟩ => by rw [e]; rfl
theorem len_raised {cl : Nat → Addr} : ∀ ds M R Z, cRaised cl ds M R Z → ds.length = 2 := fun ds M R Z ⟨_, _, e, _⟩ => by rw [e]; rfl
/-! ### _law_common -/
def gst (b : Bx) : Nat → Bx
  | 0 => b
  | k + 1 => (draw (gst b k) 30).2
def gel (unit : Nat) (b : Bx) (k : Nat) : Nat := unit * (1 + (draw (gst b k) 30).1.toNat)
def gls (unit : Nat) (b : Bx) (n : Nat) : List Nat := (List.range n).map (gel unit b)
theorem gst_ok {k : Int} {b : Bx} (h : Bd k b) : ∀ n : Nat, Bd (k + n) (gst b n)
  | 0 => h.mono (by omega)
  | n + 1 => (draw_ok (size := 30) (gst_ok h n) (by decide)).1.mono (by omega)
theorem gel_ok {k : Int} {b : Bx} (h : Bd k b) (unit n : Nat) : ∃ m, 1 ≤ m ∧ m ≤ 30 ∧ gel unit b n = unit * m := by
  have := draw_ok (size := 30) (gst_ok h n) (by decide)
  exact ⟨1 + (draw (gst b n) 30).1.toNat, by omega, by omega, rfl⟩
theorem lcm_dvd_gls {k : Int} {b : Bx} (h : Bd k b) (unit : Nat) : ∀ n, ∃ m, 1 ≤ m ∧ m ≤ 30 ^ n ∧ lcmL (gls unit b n) ∣ unit * m
  | 0 => ⟨1, by decide, by decide, Nat.one_dvd (unit * 1)⟩
  | n + 1 => by
    obtain ⟨m, h1, h2, h3⟩ := lcm_dvd_gls h unit n
    obtain ⟨m', g1, g2, g3⟩ := gel_ok h unit n
    refine ⟨m * m', Nat.mul_pos h1 g1, ?_, ?_⟩
    · rw [Nat.pow_succ]
      exact Nat.mul_le_mul h2 g2
    · have e : lcmL (gls unit b (n + 1)) = Nat.lcm (lcmL (gls unit b n)) (gel unit b n) := by
        unfold gls lcmL
        rw [List.range_succ, List.map_append, List.foldl_append]
        rfl
      rw [e, g3]
      refine Nat.lcm_dvd (Nat.dvd_trans h3 ⟨m', by rw [Nat.mul_assoc]⟩) ⟨m, by ac_rfl⟩
theorem lcm_gls_lt {k : Int} {b : Bx} (h : Bd k b) {unit n : Nat} (hu : 0 < unit) (hu2 : unit ≤ 10 ^ 9) (hn : n ≤ 5) : lcmL (gls unit b n) < 2 ^ 64 := by
  obtain ⟨m, h1, h2, h3⟩ := lcm_dvd_gls h unit n
  have h4 := Nat.le_of_dvd (Nat.mul_pos hu h1) h3
  have h5 : m ≤ 30 ^ 5 := Nat.le_trans h2 (Nat.pow_le_pow_right (by decide) hn)
  have h6 : unit * m ≤ 10 ^ 9 * 30 ^ 5 := Nat.mul_le_mul hu2 h5
  have : (10 : Nat) ^ 9 * 30 ^ 5 < 2 ^ 64 := by decide
  omega
/-- the box behind _law_common -/
def commU (b : Bx) : Int × Bx := draw (draw b 4).2 (if (draw b 4).1 = 0 then 10 ^ 9 else 6)
def commM (b : Bx) : Bx := gst (draw (commU b).2 6).2 (draw (commU b).2 6).1.toNat
theorem commM_ok {k : Int} {b : Bx} (h : Bd k b) : Bd (k + 10) (commM b) := by
  have h1 := (draw_ok (size := 4) h (by decide)).1
  have h2 := draw_ok (size := if (draw b 4).1 = 0 then 10 ^ 9 else 6) h1 (by split <;> decide)
  have h3 := draw_ok (size := 6) h2.1 (by decide)
  refine (gst_ok h3.1 _).mono ?_
  have h4 : 0 ≤ (draw (commU b).2 6).1 := h3.2.1
  have h5 : (draw (commU b).2 6).1 < 6 := h3.2.2
  omega
def cCommon : Ct := fun ds M R _ => ∃ (p : Addr) (b : Bx) (M0 : Mst), ds = [.raw (.ref p)] ∧ M = (p, .l b.cells) :: M0 ∧ Bd 999000 b ∧ R (.bl true) ((p, .l (commM b).cells) :: M0)
theorem lcm_step {a b : Nat} (ha : 0 < a) : a * (lowN a b).2 = Nat.lcm a b := by
  show a * (b / Nat.gcd a b) = Nat.lcm a b
  unfold Nat.lcm
  rw [Nat.mul_div_assoc _ (Nat.gcd_dvd_right a b)]
section
variable {P : Program} {w : World} {K : PySem.W.Frag} {mg : Str → Option Value} {base : Heap} {cl : Nat → Addr}
theorem b_Lcommon (B : Bl mg) (Pr : Prg P w K mg base cl) (Pk : PrgK P w K mg base cl) (D : Df P w K mg base "_law_draw" 1 cDraw) (Dw : Df P w K mg base "_law_low" 1 cLow) (Dl : Df P w K mg base "_law_like" 12 (cLike 12)) : BodyOk P w K mg base N_Lcommon ["box"] "_law_common" s_Lcommon 12 cCommon := by
  intro f cdv A outer s H E ds M R Z hr hl ⟨p, b, M0, e, eM, hb, hR⟩
  subst e eM
  have hu : (Xd P w K mg base N_Lcommon "_law_common" s_Lcommon f cdv A outer s H E).A.units + 64 < cLine := by have := hr.un; omega
  obtain ⟨b1, o0, o1⟩ := draw_ok (size := 4) hb (by decide)
  have hsz : 0 < (if (draw b 4).1 = 0 then (10 : Int) ^ 9 else 6) ∧ (if (draw b 4).1 = 0 then (10 : Int) ^ 9 else 6) ≤ 10 ^ 9 := by split <;> decide
  obtain ⟨b2, p0, p1⟩ := draw_ok (size := if (draw b 4).1 = 0 then 10 ^ 9 else 6) b1 hsz.1
  obtain ⟨b3, q0, q1⟩ := draw_ok (size := 6) b2 (by decide)
  have hbig : (10 : Int) ^ 9 < 2 ^ 8000 := by decide
  obtain ⟨unit, hunit⟩ : ∃ unit : Nat, unit = 1 + (commU b).1.toNat := ⟨_, rfl⟩
  have hu0 : 0 < unit := by omega
  have hu1 : unit ≤ 10 ^ 9 := by
    have : (commU b).1 < 10 ^ 9 := Int.lt_of_lt_of_le p1 hsz.2
    omega
  obtain ⟨n, hn⟩ : ∃ n : Nat, n = (draw (commU b).2 6).1.toNat := ⟨_, rfl⟩
  have hn5 : n ≤ 5 := by
    have : (draw (commU b).2 6).1 < 6 := q1
    omega
  have hnI : (draw (commU b).2 6).1 = (n : Int) := by
    have : 0 ≤ (draw (commU b).2 6).1 := q0
    omega
  obtain ⟨b0, hb0⟩ : ∃ b0, b0 = (draw (commU b).2 6).2 := ⟨_, rfl⟩
  have ok0 : Bd 999003 b0 := by rw [hb0]; exact b3
  have hM : commM b = gst b0 n := by rw [hb0, hn]; rfl
  rw [hM] at hR
  -- unit
  refine ss_cons (s1_set 1 sc_Lcommon.nd (d := .int (unit : Int)) (EE.is (ex_bin ex_int (ex_drawM D hr b1.n10 (ex_nm 0) (ex_if (d := .int (if (draw b 4).1 = 0 then 10 ^ 9 else 6)) (tx_cp (ex_draw D hr hb.n10 (ex_nm 0) ex_int) ex_int c_eqI) (fun h => ?_) fun h => ?_) hsz.1 (by omega)) o_add) ?_) ?_)
  · rw [if_pos (of_decide_eq_true h)]
    exact ex_ten (j := 9) (by decide)
  · rw [if_neg (of_decide_eq_false h)]
    exact ex_int
  · congr 1
    show 1 + (commU b).1 = _
    have : 0 ≤ (commU b).1 := p0
    omega
  -- given
  have gsok : ∀ j : Nat, j ≤ 5 → Bd 1000000 (gst b0 j) := fun j hj => (gst_ok ok0 j).mono (by omega)
  have elN : ∀ j : Nat, 0 < gel unit b0 j ∧ gel unit b0 j ≤ 10 ^ 9 * 30 := fun j => by
    obtain ⟨m, h1, h2, h3⟩ := gel_ok ok0 unit j
    rw [h3]
    exact ⟨Nat.mul_pos hu0 h1, Nat.mul_le_mul hu1 h2⟩
  refine ss_cons (s1_lcI (out := nats (gls unit b0 n)) (M' := (p, .l (gst b0 n).cells) :: M0) (M1 := (p, .l b0.cells) :: M0) (ds := rng 0 n) 3 2 rfl sc_Lcommon.nd ?_ (by exact (show BlkOk N_Lcommon (defScope s_Lcommon) _ [("k", 3)] from ⟨rfl, by decide +kernel, by decide +kernel, by decide +kernel, by decide +kernel⟩)) (fun j Mi acc => j ≤ n ∧ Mi = (p, .l (gst b0 j).cells) :: M0 ∧ acc = nats (gls unit b0 j)) ⟨Nat.zero_le _, rfl, rfl⟩ (fun j Mi acc ⟨h0, h1, h2⟩ => ⟨by rw [h1]; rfl, by rw [h2]; simp [nats, gls]; omega⟩) (fun j d Mi acc hj ⟨h0, h1, h2⟩ => ?_) (fun Mn acc ⟨h0, h1, h2⟩ => ?_) rfl ?_)
  · have e : rng 0 n = rng 0 ((n : Int)).toNat := by rw [Int.toNat_natCast]
    rw [e, hb0]
    exact ix_range (n := (n : Int)) B.range (ax_cons (EE.is (ex_draw D hr b2.n10 (ex_nm 0) ex_int) (congrArg Dt.int hnI)) ax_nil) (by omega)
  · subst h1 h2
    have hjn : j < n := by
      have := (List.getElem?_eq_some_iff.mp hj).1
      rw [rng_len] at this
      exact this
    have gj := gsok j (by omega)
    obtain ⟨_, r0, r1⟩ := draw_ok (size := 30) gj (by decide)
    refine ⟨.int (gel unit b0 j : Int), (p, .l (gst b0 (j + 1)).cells) :: M0, fun s H C cl fp => ?_, hjn, rfl, ?_⟩
    · refine EE.is (ex_bin (ex_nm 1) (EE.is (ex_bin ex_int (ex_draw D hr gj (ex_nm 0) ex_int) o_add) (addNat (n := 1) r0)) (o_mulN (i := 30) (j := 5) (by omega) (by omega) (by decide))) rfl
    · unfold gls nats
      rw [List.range_succ, List.map_append, List.map_append]
      rfl
  · rw [rng_len] at h1 h2
    exact ⟨h1, by rw [h2]⟩
  -- due
  have hgl : (gls unit b0 n).length = n := by simp [gls]
  have takeG : ∀ i, i ≤ n → (gls unit b0 n).take i = gls unit b0 i := fun i hi => by
    unfold gls
    rw [← List.map_take, List.take_range, Nat.min_eq_left hi]
  have ltG : ∀ i, lcmL ((gls unit b0 n).take i) < 2 ^ 64 := fun i => by
    by_cases hi : i ≤ n
    · rw [takeG i hi]
      exact lcm_gls_lt ok0 hu0 hu1 (by omega)
    · rw [List.take_of_length_le (by rw [hgl]; omega)]
      exact lcm_gls_lt ok0 hu0 hu1 hn5
  have memG : ∀ m ∈ gls unit b0 n, 0 < m ∧ m < 2 ^ 64 := fun m hm => by
    obtain ⟨j, _, rfl⟩ := List.mem_map.mp hm
    have := elN j
    omega
  have posG : ∀ l : List Nat, (∀ m ∈ l, 0 < m) → ∀ a, 0 < a → 0 < l.foldl Nat.lcm a := fun l => by
    induction l with
    | nil => intro _ a h; exact h
    | cons x l ih => intro h a ha; exact ih (fun m hm => h m (List.mem_cons_of_mem _ hm)) _ (Nat.lcm_pos ha (h x List.mem_cons_self))
  refine ss_cons (s1_set 4 sc_Lcommon.nd ex_int ?_)
  refine ss_cons (s1_for (fun i G' M' => M' = (p, .l (gst b0 n).cells) :: M0 ∧ ∃ o, G' = [some (.raw (.ref p)), some (.int (unit : Int)), some (.lst (nats (gls unit b0 n))), none, some (.int (lcmL ((gls unit b0 n).take i) : Int)), o, none]) (ix_lst (ex_nm 2)) rfl ⟨rfl, none, rfl⟩ ?_ ?_ (fun i G' M' h => by rw [h.1]) PassesOwn.leaving)
  · rintro i d G' M' hd ⟨rfl, o, rfl⟩
    obtain ⟨m, hm, rfl⟩ := nats_get hd
    have mm := memG m (List.mem_of_getElem? hm)
    have lp : 0 < lcmL ((gls unit b0 n).take i) := posG _ (fun m hm => (memG m (List.mem_of_mem_take hm)).1) 1 (by decide)
    have ll := ltG i
    refine ⟨_, gx_nm 5 sc_Lcommon.nd, ?_⟩
    have hlow := lowN_le (lcmL ((gls unit b0 n).take i)) m
    refine ss_one (s1_set 4 sc_Lcommon.nd (ex_bin (ex_nm 4) (ex_p1 (ex_low Dw hr (ex_nm 4) (ex_nm 5) (gpos mm.1) (gcd_le_of (i := 64) mm.1 (Nat.le_of_lt mm.2) (by decide)))) (o_mulN (i := 64) (j := 64) (Nat.le_of_lt ll) (Nat.le_trans hlow.2 (Nat.le_of_lt mm.2)) (by decide))) ?_)
    refine ⟨rfl, some (.int (m : Int)), ?_⟩
    rw [take_snoc hm, lcm_step lp]
    unfold lcmL
    rw [List.foldl_append]
    rfl
  · rintro G' M' ⟨rfl, o, rfl⟩
    have e5 : (gls unit b0 n).take (nats (gls unit b0 n)).length = gls unit b0 n := by simp [nats]
    rw [e5]
    have nE : nats (gls unit b0 n) = ((gls unit b0 n).map fun (m : Nat) => (m : Int)).map Dt.int := by simp [nats]
    have lw : ∀ {d : Dt}, d = .lst (nats (gls unit b0 n)) ∨ d = .tup (nats (gls unit b0 n)) → ∀ M, cLeast [d] M (fun d' M' => d' = .int (lcmL (gls unit b0 n) : Int) ∧ M' = M) E00 := fun h M => ⟨gls unit b0 n, h.imp (congrArg (fun x => [x])) (congrArg (fun x => [x])), fun m hm => (memG m hm).2, ltG, rfl, rfl⟩
    refine ss_cons (s1_set 6 sc_Lcommon.nd (ex_listL B.list (ex_nm 2)) ?_)
    refine ss_one (s1_ret (EE.is (ex_and (k := true) (ex_call Dl hr (ax_cons (d := .lst [.int (lcmL (gls unit b0 n) : Int), .int (lcmL (gls unit b0 n) : Int), .int (lcmL (gls unit b0 n) : Int), .int 1]) (ex_ls (ax_cons (ex_call Pr.least hr (ax_cons (ex_nm 6) ax_nil) (lw (.inl rfl) _)) (ax_cons (ex_call Pr.least hr (ax_cons (ex_tupL B.tuple (ex_nm 2)) ax_nil) (lw (.inr rfl) _)) (ax_cons (ex_k1 Pk.least kb_least hr (ex_nm 2) len_least (lw (.inl rfl) _)) (ax_cons (ex_call Pr.least hr (ax_cons (ex_lst ax_nil) ax_nil) ⟨[], .inl rfl, by simp, fun i => by simp [lcmL], rfl, rfl⟩) ax_nil))))) (ax_cons (ex_ls (ax_cons (ex_nm 4) (ax_cons (ex_nm 4) (ax_cons (ex_nm 4) (ax_cons ex_int ax_nil))))) ax_nil)) ⟨_, rfl, rfl, rfl, rfl⟩) fun _ => ex_one (ex_cp (d1 := .lst (((gls unit b0 n).map fun (m : Nat) => (m : Int)).map Dt.int)) (d2 := .lst (((gls unit b0 n).map fun (m : Nat) => (m : Int)).map Dt.int)) (EE.is (ex_nm 6) (congrArg Dt.lst nE)) (EE.is (ex_nm 2) (congrArg Dt.lst nE)) (c_eqIs hu))) rfl) (.of hR))
end
end K1

set_option Elab.async false
set_option linter.all false
set_option maxRecDepth 100000
set_option maxHeartbeats 8000000
set_option exponentiation.threshold 100000
/-! K22: _law_kept, _law_classed. -/
namespace K1
open PySem PySem.Spec PyProof.Rows L2 HM TX XN L2H LM L2N
theorem kbx0 : KBX (iS 0) ["value"] ["value"] g1 := fun x qual kV doc pm an cdv ct cc u ws h => by
  match ws, h with
  | [w], _ => rfl
theorem kbx1 : KBX (iS 1) ["value"] ["value"] g1 := fun x qual kV doc pm an cdv ct cc u ws h => by
  match ws, h with
  | [w], _ => rfl
theorem kbx2 : KBX (iS 2) ["value"] ["value"] g1 := fun x qual kV doc pm an cdv ct cc u ws h => by
  match ws, h with
  | [w], _ => rfl
theorem kbx3 : KBX (iS 3) ["line", "why"] ["why", "line"] g2 := fun x qual kV doc pm an cdv ct cc u ws h => by
  match ws, h with
  | [w, w2], _ => rfl
theorem kbx4 : KBX (iS 4) ["line", "why"] ["why", "line"] g2 := fun x qual kV doc pm an cdv ct cc u ws h => by
  match ws, h with
  | [w, w2], _ => rfl
theorem kbx5 : KBX (iS 5) ["line", "why"] ["why", "line"] g2 := fun x qual kV doc pm an cdv ct cc u ws h => by
  match ws, h with
  | [w, w2], _ => rfl
theorem kbx6 : KBX (iS 6) ["line", "why"] ["why", "line"] g2 := fun x qual kV doc pm an cdv ct cc u ws h => by
  match ws, h with
  | [w, w2], _ => rfl
theorem kbx7 : KBX (iS 7) ["line", "why"] ["why", "line"] g2 := fun x qual kV doc pm an cdv ct cc u ws h => by
  match ws, h with
  | [w, w2], _ => rfl
theorem kbx8 : KBX (iS 8) ["at", "why"] ["why", "at"] g2 := fun x qual kV doc pm an cdv ct cc u ws h => by
  match ws, h with
  | [w, w2], _ => rfl
theorem kbx9 : KBX (iS 9) ["sign"] ["sign"] g1 := fun x qual kV doc pm an cdv ct cc u ws h => by
  match ws, h with
  | [w], _ => rfl
theorem kbx10 : KBX (iS 10) ["line", "why"] ["why", "line"] g2 := fun x qual kV doc pm an cdv ct cc u ws h => by
  match ws, h with
  | [w, w2], _ => rfl
theorem kbx11 : KBX (iS 11) ["name"] ["name"] g1 := fun x qual kV doc pm an cdv ct cc u ws h => by
  match ws, h with
  | [w], _ => rfl
theorem kbx12 : KBX (iS 12) ["condition", "crowd"] ["crowd", "condition"] g2 := fun x qual kV doc pm an cdv ct cc u ws h => by
  match ws, h with
  | [w, w2], _ => rfl
theorem kbx13 : KBX (iS 13) ["why"] ["why"] g1 := fun x qual kV doc pm an cdv ct cc u ws h => by
  match ws, h with
  | [w], _ => rfl
theorem kbx14 : KBX (iS 14) ["what"] ["what"] g1 := fun x qual kV doc pm an cdv ct cc u ws h => by
  match ws, h with
  | [w], _ => rfl
theorem kbx15 : KBX (iS 15) ["what"] ["what"] g1 := fun x qual kV doc pm an cdv ct cc u ws h => by
  match ws, h with
  | [w], _ => rfl
theorem kbx16 : KBX (iS 16) ["kind"] ["kind"] g1 := fun x qual kV doc pm an cdv ct cc u ws h => by
  match ws, h with
  | [w], _ => rfl
theorem kbx17 : KBX (iS 17) ["what", "count"] ["count", "what"] g2 := fun x qual kV doc pm an cdv ct cc u ws h => by
  match ws, h with
  | [w, w2], _ => rfl
theorem kbx18 : KBX (iS 18) ["name"] ["name"] g1 := fun x qual kV doc pm an cdv ct cc u ws h => by
  match ws, h with
  | [w], _ => rfl
theorem kbx19 : KBX (iS 19) ["what"] ["what"] g1 := fun x qual kV doc pm an cdv ct cc u ws h => by
  match ws, h with
  | [w], _ => rfl
end K1

set_option Elab.async false
set_option linter.all false
set_option maxRecDepth 100000
set_option maxHeartbeats 8000000
set_option exponentiation.threshold 100000
/-! K22: _law_kept, _law_classed. -/
namespace K1
open PySem PySem.Spec PyProof.Rows L2 HM TX XN L2H LM L2N
theorem dp_l {n : Nat} {l : List Dt} (h : ∀ d ∈ l, dp n d = true) (hl : l.length ≤ 1000) : dp (n + 1) (.lst l) = true := by
  show (l.all (dp n) && decide (l.length ≤ 1000)) = true
  rw [decide_eq_true hl, Bool.and_true]
  exact List.all_eq_true.mpr h
theorem dp_t {n : Nat} {l : List Dt} (h : ∀ d ∈ l, dp n d = true) (hl : l.length ≤ 1000) : dp (n + 1) (.tup l) = true := by
  show (l.all (dp n) && decide (l.length ≤ 1000)) = true
  rw [decide_eq_true hl, Bool.and_true]
  exact List.all_eq_true.mpr h
theorem odd_dp : ∀ d ∈ oddL, dp 9 d = true ∧ dp 10 d = true ∧ dp 11 d = true := fun d hd => by
  have h9 := List.all_eq_true.mp (show oddL.all (dp 9) = true by decide +kernel) d hd
  have h10 := List.all_eq_true.mp (show oddL.all (dp 10) = true by decide +kernel) d hd
  have h11 := List.all_eq_true.mp (show oddL.all (dp 11) = true by decide +kernel) d hd
  exact ⟨h9, h10, h11⟩
/-! ### _law_classed -/
def argsOf (i : Nat) (x y : Dt) : List Dt := if (cps i).length = 1 then [x] else [x, y]
def cClassed : Ct := fun ds M R _ => ∃ x y, ds = [x, y] ∧ R (.bl true) M
def srtA (k : Nat) : List Str := if k = 19 then ["Ended", "RuntimeError"] else if k = 18 then ["LookupError", "Missing", "NoSuch"] else if k < 11 ∧ k ≠ 11 then [cnm k, "ModelError", "ValueError"] else ["ModelError", cnm k, "ValueError"]
def perms (l : List Str) : List (List Str) := match l with
  | [a, b] => [[a, b], [b, a]]
  | [a, b, c] => [[a, b, c], [a, c, b], [b, a, c], [b, c, a], [c, a, b], [c, b, a]]
  | _ => []
theorem perm2 {a b : Str} {ys : List Str} (h : ys.Perm [a, b]) : ys ∈ perms [a, b] := by
  have hl := h.length_eq
  match ys, hl with
  | [p, q], _ =>
    have hp : p ∈ [a, b] := h.mem_iff.mp (by simp)
    rcases List.mem_cons.mp hp with rfl | hp
    · have := (List.perm_cons p).mp h
      rw [List.perm_singleton.mp this]
      simp [perms]
    · have hp : p = b := by simpa using hp
      subst hp
      have h2 : [p, q].Perm [p, a] := h.trans (List.Perm.swap p a [])
      have := (List.perm_cons p).mp h2
      rw [List.perm_singleton.mp this]
      simp [perms]
theorem perm3 {a b c : Str} {ys : List Str} (h : ys.Perm [a, b, c]) : ys ∈ perms [a, b, c] := by
  have hl := h.length_eq
  match ys, hl with
  | p :: r, hl =>
    have key : ∀ x y, (p :: r).Perm [p, x, y] → r = [x, y] ∨ r = [y, x] := fun x y h2 => by
      have := perm2 ((List.perm_cons p).mp h2)
      simpa [perms] using this
    have hp : p ∈ [a, b, c] := h.mem_iff.mp (by simp)
    rcases List.mem_cons.mp hp with rfl | hp
    · rcases key b c h with e | e <;> simp [perms, e]
    · rcases List.mem_cons.mp hp with rfl | hp
      · have h2 : (p :: r).Perm [p, a, c] := h.trans (List.Perm.swap p a [c])
        rcases key a c h2 with e | e <;> simp [perms, e]
      · have hp : p = c := by simpa using hp
        subst hp
        have h2 : (p :: r).Perm [p, a, b] := h.trans (by
          have h3 : [a, b, p].Perm [a, p, b] := List.Perm.cons a (List.Perm.swap p b [])
          exact h3.trans (List.Perm.swap p a [b]))
        rcases key a b h2 with e | e <;> simp [perms, e]
theorem srt_all : ∀ k, k < 20 → ∀ ys ∈ perms (above k), sortedS ys = true → ys = srtA k := by decide +kernel
theorem srt_u {k : Nat} (hk : k < 20) (ys : List Str) (h : ys.Perm (above k)) (hs : sortedS ys = true) : ys = srtA k := by
  refine srt_all k hk ys ?_ hs
  unfold above at h ⊢
  split
  · rw [if_pos (by assumption)] at h
    exact perm3 h
  · rw [if_neg (by assumption)] at h
    split
    · rw [if_pos (by assumption)] at h
      exact perm2 h
    · rw [if_neg (by assumption)] at h
      exact perm3 h
theorem srt_shape : ∀ k, k < 20 → SeqAt.shaped (.list ((srtA k).map PyData.str)) = true ∧ PyData.eqv (.list ((srtA k).map PyData.str)) (.list ((srtA k).map PyData.str)) = true := by decide +kernel
theorem above_len : ∀ k, k < 20 → (above k).length < 64 := by decide +kernel
theorem code_at : ∀ k, k < 20 → (cks k)[(cps k).length]? = some "code" ∧ (cks k).Nodup := by decide +kernel
theorem code_fs {k : Nat} {l : List Dt} (h : l.length = (cps k).length) : (cfs k l)[(cps k).length]? = some (.str (cnm k)) := by
  show (l.reverse ++ [Dt.str (cnm k)])[(cps k).length]? = _
  rw [List.getElem?_append_right (by simp [h])]
  simp [h]
theorem args_len : ∀ (k : Nat) (x y : Dt), k < 20 → (argsOf k x y).length = (cps k).length := by
  have h : ∀ k, k < 20 → (cps k).length = 1 ∨ (cps k).length = 2 := by decide +kernel
  intro k x y hk
  unfold argsOf
  rcases h k hk with e | e
  · rw [if_pos e, e]; rfl
  · rw [if_neg (by omega), e]; rfl
/-! ### a statement kept shut: its display of constants is not to be run by the elaborator -/
@[irreducible] def S1i (X : Cx) (st : Stmt) (G : List (Option Dt)) (M : Mst) (T : Po) : Prop := S1 X st G M T
section
variable {X : Cx} {e : Expr} {st : Stmt} {sts : List Stmt} {G : List (Option Dt)} {M M1 : Mst} {T : Po} {d : Dt} {pos tpos : Pos} {x : Str}
theorem ss_consSh (h : S1i X st G M { T with nx := fun G' M' => SS X sts G' M' T }) : SS X (st :: sts) G M T := by
  unfold S1i at h
  exact ss_cons h
theorem s1_setSh (i : Nat) (hN : X.N.Nodup) (he : EX X e G M d M1) (h : T.nx (G.set i (some d)) M1) (hi : X.N[i]? = some x := by rfl) (hx : Loc X.env.scope x := by first | exact Or.inl rfl | exact Or.inr rfl)
    (hs : swapsWith e (some (.Name x tpos)) pos.line X.env = pure false := by rfl) (hf : X.fn x = true ∨ X.env.scope.names.lookup x = some .local := by first | exact .inl rfl | exact .inr rfl | assumption) : S1i X (.Assign [.Name x tpos] e pos) G M T := by
  unfold S1i
  exact s1_set i hN he h hi hx hs hf
end
end K1

set_option Elab.async false
set_option linter.all false
set_option maxRecDepth 100000
set_option maxHeartbeats 8000000
set_option exponentiation.threshold 100000
/-! K22: _law_kept, _law_classed. -/
namespace K1
open PySem PySem.Spec PyProof.Rows L2 HM TX XN L2H LM L2N
def tagsL : List Str := ["BadName", "BadFraction", "BadNumber", "BadGround", "BadBook", "BadRecipe", "BadLook", "BadTerm", "BadQuestion", "BadReading", "BadScript", "NotBare", "NotOne", "NotScorer", "NoChance", "Unlike", "TooFew", "TooMany", "NoSuch", "Ended"]
theorem tags_at : ∀ k, k < 20 → tagsL[k]? = some (cnm k) := by decide +kernel
section
variable {P : Program} {w : World} {K : PySem.W.Frag} {mg : Str → Option Value} {base : Heap} {cl : Nat → Addr}
theorem b_Lclassed (B : Bl mg) (C : Cls P K mg cl) (Dk : Df P w K mg base "_law_kin" 1 (cKin cl)) (Da : Df P w K mg base "_law_above" 1 cAbove) (Dl : Df P w K mg base "_law_like" 12 (cLike 12)) : BodyOk P w K mg base N_Lclassed ["x", "y"] "_law_classed" s_Lclassed 12 cClassed := by
  intro f cdv A outer s H E ds M R Z hr hl ⟨x, y, e, hR⟩
  subst e
  have hu : (Xd P w K mg base N_Lclassed "_law_classed" s_Lclassed f cdv A outer s H E).A.units + 64 < cLine := by have := hr.un; omega
  refine ss_cons (s1_set 2 sc_Lclassed.nd (d := .lst ((List.range 20).map fun i => Dt.exc (cl i) (cks i) (cfs i (argsOf i x y)))) (EE.is (ex_ls (
      ax_cons (ex_exc (C.xm 0 (by decide)) (roomD hr) (ax_cons (ex_nm 0) ax_nil)) <|
      ax_cons (ex_exc (C.xm 1 (by decide)) (roomD hr) (ax_cons (ex_nm 0) ax_nil)) <|
      ax_cons (ex_exc (C.xm 2 (by decide)) (roomD hr) (ax_cons (ex_nm 0) ax_nil)) <|
      ax_cons (ex_exc (C.xm 3 (by decide)) (roomD hr) (ax_cons (ex_nm 0) (ax_cons (ex_nm 1) ax_nil))) <|
      ax_cons (ex_exc (C.xm 4 (by decide)) (roomD hr) (ax_cons (ex_nm 0) (ax_cons (ex_nm 1) ax_nil))) <|
      ax_cons (ex_exc (C.xm 5 (by decide)) (roomD hr) (ax_cons (ex_nm 0) (ax_cons (ex_nm 1) ax_nil))) <|
      ax_cons (ex_exc (C.xm 6 (by decide)) (roomD hr) (ax_cons (ex_nm 0) (ax_cons (ex_nm 1) ax_nil))) <|
      ax_cons (ex_exc (C.xm 7 (by decide)) (roomD hr) (ax_cons (ex_nm 0) (ax_cons (ex_nm 1) ax_nil))) <|
      ax_cons (ex_exc (C.xm 8 (by decide)) (roomD hr) (ax_cons (ex_nm 0) (ax_cons (ex_nm 1) ax_nil))) <|
      ax_cons (ex_exc (C.xm 9 (by decide)) (roomD hr) (ax_cons (ex_nm 0) ax_nil)) <|
      ax_cons (ex_exc (C.xm 10 (by decide)) (roomD hr) (ax_cons (ex_nm 0) (ax_cons (ex_nm 1) ax_nil))) <|
      ax_cons (ex_exc (C.xm 11 (by decide)) (roomD hr) (ax_cons (ex_nm 0) ax_nil)) <|
      ax_cons (ex_exc (C.xm 12 (by decide)) (roomD hr) (ax_cons (ex_nm 0) (ax_cons (ex_nm 1) ax_nil))) <|
      ax_cons (ex_exc (C.xm 13 (by decide)) (roomD hr) (ax_cons (ex_nm 0) ax_nil)) <|
      ax_cons (ex_exc (C.xm 14 (by decide)) (roomD hr) (ax_cons (ex_nm 0) ax_nil)) <|
      ax_cons (ex_exc (C.xm 15 (by decide)) (roomD hr) (ax_cons (ex_nm 0) ax_nil)) <|
      ax_cons (ex_exc (C.xm 16 (by decide)) (roomD hr) (ax_cons (ex_nm 0) ax_nil)) <|
      ax_cons (ex_exc (C.xm 17 (by decide)) (roomD hr) (ax_cons (ex_nm 0) (ax_cons (ex_nm 1) ax_nil))) <|
      ax_cons (ex_exc (C.xm 18 (by decide)) (roomD hr) (ax_cons (ex_nm 0) ax_nil)) <|
      ax_cons (ex_exc (C.xm 19 (by decide)) (roomD hr) (ax_cons (ex_nm 0) ax_nil)) ax_nil)) (by kernel_rfl)) ?_)
  refine ss_consSh ?_
  refine (s1_setSh 3 sc_Lclassed.nd (d := .lst (tagsL.map Dt.str)) (EE.is (ex_ls (
      ax_cons ex_str <|
      ax_cons ex_str <|
      ax_cons ex_str <|
      ax_cons ex_str <|
      ax_cons ex_str <|
      ax_cons ex_str <|
      ax_cons ex_str <|
      ax_cons ex_str <|
      ax_cons ex_str <|
      ax_cons ex_str <|
      ax_cons ex_str <|
      ax_cons ex_str <|
      ax_cons ex_str <|
      ax_cons ex_str <|
      ax_cons ex_str <|
      ax_cons ex_str <|
      ax_cons ex_str <|
      ax_cons ex_str <|
      ax_cons ex_str <|
      ax_cons ex_str ax_nil)) rfl) ?_)
  refine ss_cons (s1_for (fun i G' M' => M' = M ∧ ∃ o, G' = [some x, some y, some (.lst ((List.range 20).map fun i => Dt.exc (cl i) (cks i) (cfs i (argsOf i x y)))), some (.lst (tagsL.map Dt.str)), o]) (ix_range (n := 20) B.range (ax_cons ex_int ax_nil) (by decide)) rfl ⟨rfl, none, rfl⟩ ?_ ?_ (fun i G' M' h => by rw [h.1]) PassesOwn.leaving)
  · rintro i d G' M' hd ⟨rfl, o, rfl⟩
    obtain ⟨k, hk, rfl⟩ := mem_rng (List.mem_of_getElem? hd)
    have hk : k < 20 := hk
    refine ⟨_, gx_nm 4 sc_Lclassed.nd, ?_⟩
    have e1 : ((List.range 20).map fun i => Dt.exc (cl i) (cks i) (cfs i (argsOf i x y)))[k]? = some (Dt.exc (cl k) (cks k) (cfs k (argsOf k x y))) := by
      rw [List.getElem?_map, List.getElem?_range hk]
      rfl
    have e2 : (tagsL.map Dt.str)[k]? = some (Dt.str (cnm k)) := by
      rw [List.getElem?_map, tags_at k hk]
      rfl
    have sh := srt_shape k hk
    have ca := code_at k hk
    refine ss_one (s1_if (k := false) (ET.is (tx_w (wx_or (tx_cp (ex_sorted (xs := above k) (zs := srtA k) B.sorted (ex_call Dk hr (ax_cons (ex_at (ex_nm 2) (ex_nm 4) (i_lst e1)) ax_nil) ⟨k, _, hk, rfl, rfl, rfl⟩) (above_len k hk) (srt_u hk)) (ex_sorted (xs := above k) (zs := srtA k) B.sorted (ex_call Da hr (ax_cons (ex_at (ex_nm 3) (ex_nm 4) (i_lst e2)) ax_nil) ⟨k, hk, rfl, rfl, rfl⟩) (above_len k hk) (srt_u hk)) (c_neSs hu sh.1 sh.1 (by rw [sh.2])))
      fun _ => wx_or1 (tx_not (tx_val (ex_call Dl hr (ax_cons (ex_fld (cps k).length (C.xf k hk) (C.no k hk _ (by simp)) excV_exc (ex_at (ex_nm 2) (ex_nm 4) (i_lst e1)) ca.1 ca.2 (code_fs (args_len k x y hk))) (ax_cons (ex_at (ex_nm 3) (ex_nm 4) (i_lst e2)) ax_nil)) ⟨_, rfl, rfl, rfl, rfl⟩))))) rfl) (fun z => absurd z (by simp)) fun _ => ss_nil ?_)
    exact ⟨rfl, _, rfl⟩
  · rintro G' M' ⟨rfl, o, rfl⟩
    exact ss_one (s1_ret ex_bl (.of hR))
end
end K1

set_option Elab.async false
set_option linter.all false
set_option maxRecDepth 100000
set_option maxHeartbeats 8000000
set_option exponentiation.threshold 100000
/-! K22b: _law_kept. -/
namespace K1
open PySem PySem.Spec PyProof.Rows L2 HM TX XN L2H LM L2N
/-! ### _law_kept -/
def keptM (b : Bx) : Bx := (oddM (oddM b).2).2
theorem keptM_ok {k : Int} {b : Bx} (h : Bd k b) : Bd (k + 2) (keptM b) := (oddM_ok (oddM_ok h).1).1.mono (by omega)
def cKept : Ct := fun ds M R _ => ∃ (p : Addr) (b : Bx) (M0 : Mst), ds = [.raw (.ref p)] ∧ M = (p, .l b.cells) :: M0 ∧ Bd 998000 b ∧ R (.bl true) ((p, .l (keptM b).cells) :: M0)
theorem lw_ks : ∀ i ∈ [3, 4, 5, 6, 7, 10], cks i = [("why" : Str), "line", "code"] := by decide +kernel
section
variable {P : Program} {w : World} {K : PySem.W.Frag} {mg : Str → Option Value} {base : Heap} {cl : Nat → Addr}
theorem b_Lkept (B : Bl mg) (C : Cls P K mg cl) (Do : Df P w K mg base "_law_odd" 3 cOdd) (Dc : Df P w K mg base "_law_classed" 13 cClassed) (Dl : Df P w K mg base "_law_like" 12 (cLike 12)) : BodyOk P w K mg base N_Lkept ["box"] "_law_kept" s_Lkept 13 cKept := by
  intro f cdv A outer s H E ds M R Z hr hl ⟨p, b, M0, e, eM, hb, hR⟩
  subst e eM
  have o1 := oddM_ok hb
  have o2 := oddM_ok o1.1
  refine ss_cons (s1_par 1 2 rfl sc_Lkept.nd (ax_cons (ex_call Do hr (ax_cons (ex_nm 0) ax_nil) ⟨p, b, M0, rfl, rfl, hb.mono (by omega), rfl, rfl⟩) (ax_cons (ex_call Do hr (ax_cons (ex_nm 0) ax_nil) ⟨p, (oddM b).2, M0, rfl, rfl, o1.1.mono (by omega), rfl, rfl⟩) ax_nil)) ?_)
  have hx := odd_dp _ o1.2
  have hy := odd_dp _ o2.2
  generalize (oddM b).1 = x at hx
  generalize (oddM (oddM b).2).1 = y at hy
  refine ss_consSh ?_
  refine (s1_setSh 3 sc_Lkept.nd (d := .lst (List.replicate 8 x)) (EE.is (ex_ls (
      ax_cons (ex_fld 0 (C.xf 0 (by decide)) (C.no 0 (by decide) _ (by decide)) excV_exc (ex_exc (C.xm 0 (by decide)) (roomD hr) (ax_cons (ex_nm 1) ax_nil)) rfl (by decide) rfl) <|
      ax_cons (ex_fld 0 (C.xf 1 (by decide)) (C.no 1 (by decide) _ (by decide)) excV_exc (ex_exc (C.xm 1 (by decide)) (roomD hr) (ax_cons (ex_nm 1) ax_nil)) rfl (by decide) rfl) <|
      ax_cons (ex_fld 0 (C.xf 2 (by decide)) (C.no 2 (by decide) _ (by decide)) excV_exc (ex_exc (C.xm 2 (by decide)) (roomD hr) (ax_cons (ex_nm 1) ax_nil)) rfl (by decide) rfl) <|
      ax_cons (ex_fld 0 (C.xf 9 (by decide)) (C.no 9 (by decide) _ (by decide)) excV_exc (ex_exc (C.xm 9 (by decide)) (roomD hr) (ax_cons (ex_nm 1) ax_nil)) rfl (by decide) rfl) <|
      ax_cons (ex_fld 0 (C.xf 11 (by decide)) (C.no 11 (by decide) _ (by decide)) excV_exc (ex_exc (C.xm 11 (by decide)) (roomD hr) (ax_cons (ex_nm 1) ax_nil)) rfl (by decide) rfl) <|
      ax_cons (ex_fld 0 (C.xf 13 (by decide)) (C.no 13 (by decide) _ (by decide)) excV_exc (ex_exc (C.xm 13 (by decide)) (roomD hr) (ax_cons (ex_nm 1) ax_nil)) rfl (by decide) rfl) <|
      ax_cons (ex_fld 0 (C.xf 14 (by decide)) (C.no 14 (by decide) _ (by decide)) excV_exc (ex_exc (C.xm 14 (by decide)) (roomD hr) (ax_cons (ex_nm 1) ax_nil)) rfl (by decide) rfl) <|
      ax_cons (ex_fld 0 (C.xf 15 (by decide)) (C.no 15 (by decide) _ (by decide)) excV_exc (ex_exc (C.xm 15 (by decide)) (roomD hr) (ax_cons (ex_nm 1) ax_nil)) rfl (by decide) rfl) ax_nil)) (by kernel_rfl)) ?_)
  refine ss_consSh ?_
  refine (s1_setSh 3 sc_Lkept.nd (d := .lst (List.replicate 14 x)) (EE.is (ex_bin (ex_nm 3) (ex_ls (
      ax_cons (ex_fld 0 (C.xf 16 (by decide)) (C.no 16 (by decide) _ (by decide)) excV_exc (ex_exc (C.xm 16 (by decide)) (roomD hr) (ax_cons (ex_nm 1) ax_nil)) rfl (by decide) rfl) <|
      ax_cons (ex_fld 0 (C.xf 18 (by decide)) (C.no 18 (by decide) _ (by decide)) excV_exc (ex_exc (C.xm 18 (by decide)) (roomD hr) (ax_cons (ex_nm 1) ax_nil)) rfl (by decide) rfl) <|
      ax_cons (ex_fld 0 (C.xf 19 (by decide)) (C.no 19 (by decide) _ (by decide)) excV_exc (ex_exc (C.xm 19 (by decide)) (roomD hr) (ax_cons (ex_nm 1) ax_nil)) rfl (by decide) rfl) <|
      ax_cons (ex_fld 0 (C.xf 0 (by decide)) (C.no 0 (by decide) _ (by decide)) excV_exc (ex_excK (g := g1) (ps := cps 0) (C.xm 0 (by decide)) (roomD hr) kbx0 (kx_cons (ex_nm 1) kx_nil) rfl rfl vals_g1 len_g1 rep_g1) rfl (by decide) rfl) <|
      ax_cons (ex_fld 0 (C.xf 1 (by decide)) (C.no 1 (by decide) _ (by decide)) excV_exc (ex_excK (g := g1) (ps := cps 1) (C.xm 1 (by decide)) (roomD hr) kbx1 (kx_cons (ex_nm 1) kx_nil) rfl rfl vals_g1 len_g1 rep_g1) rfl (by decide) rfl) <|
      ax_cons (ex_fld 0 (C.xf 2 (by decide)) (C.no 2 (by decide) _ (by decide)) excV_exc (ex_excK (g := g1) (ps := cps 2) (C.xm 2 (by decide)) (roomD hr) kbx2 (kx_cons (ex_nm 1) kx_nil) rfl rfl vals_g1 len_g1 rep_g1) rfl (by decide) rfl) ax_nil)) (o_catL (by simp))) (by kernel_rfl)) ?_)
  refine ss_consSh ?_
  refine (s1_setSh 3 sc_Lkept.nd (d := .lst (List.replicate 19 x)) (EE.is (ex_bin (ex_nm 3) (ex_ls (
      ax_cons (ex_fld 0 (C.xf 9 (by decide)) (C.no 9 (by decide) _ (by decide)) excV_exc (ex_excK (g := g1) (ps := cps 9) (C.xm 9 (by decide)) (roomD hr) kbx9 (kx_cons (ex_nm 1) kx_nil) rfl rfl vals_g1 len_g1 rep_g1) rfl (by decide) rfl) <|
      ax_cons (ex_fld 0 (C.xf 11 (by decide)) (C.no 11 (by decide) _ (by decide)) excV_exc (ex_excK (g := g1) (ps := cps 11) (C.xm 11 (by decide)) (roomD hr) kbx11 (kx_cons (ex_nm 1) kx_nil) rfl rfl vals_g1 len_g1 rep_g1) rfl (by decide) rfl) <|
      ax_cons (ex_fld 0 (C.xf 13 (by decide)) (C.no 13 (by decide) _ (by decide)) excV_exc (ex_excK (g := g1) (ps := cps 13) (C.xm 13 (by decide)) (roomD hr) kbx13 (kx_cons (ex_nm 1) kx_nil) rfl rfl vals_g1 len_g1 rep_g1) rfl (by decide) rfl) <|
      ax_cons (ex_fld 0 (C.xf 14 (by decide)) (C.no 14 (by decide) _ (by decide)) excV_exc (ex_excK (g := g1) (ps := cps 14) (C.xm 14 (by decide)) (roomD hr) kbx14 (kx_cons (ex_nm 1) kx_nil) rfl rfl vals_g1 len_g1 rep_g1) rfl (by decide) rfl) <|
      ax_cons (ex_fld 0 (C.xf 15 (by decide)) (C.no 15 (by decide) _ (by decide)) excV_exc (ex_excK (g := g1) (ps := cps 15) (C.xm 15 (by decide)) (roomD hr) kbx15 (kx_cons (ex_nm 1) kx_nil) rfl rfl vals_g1 len_g1 rep_g1) rfl (by decide) rfl) ax_nil)) (o_catL (by simp))) (by kernel_rfl)) ?_)
  refine ss_consSh ?_
  refine (s1_setSh 3 sc_Lkept.nd (d := .lst (List.replicate 22 x)) (EE.is (ex_bin (ex_nm 3) (ex_ls (
      ax_cons (ex_fld 0 (C.xf 16 (by decide)) (C.no 16 (by decide) _ (by decide)) excV_exc (ex_excK (g := g1) (ps := cps 16) (C.xm 16 (by decide)) (roomD hr) kbx16 (kx_cons (ex_nm 1) kx_nil) rfl rfl vals_g1 len_g1 rep_g1) rfl (by decide) rfl) <|
      ax_cons (ex_fld 0 (C.xf 18 (by decide)) (C.no 18 (by decide) _ (by decide)) excV_exc (ex_excK (g := g1) (ps := cps 18) (C.xm 18 (by decide)) (roomD hr) kbx18 (kx_cons (ex_nm 1) kx_nil) rfl rfl vals_g1 len_g1 rep_g1) rfl (by decide) rfl) <|
      ax_cons (ex_fld 0 (C.xf 19 (by decide)) (C.no 19 (by decide) _ (by decide)) excV_exc (ex_excK (g := g1) (ps := cps 19) (C.xm 19 (by decide)) (roomD hr) kbx19 (kx_cons (ex_nm 1) kx_nil) rfl rfl vals_g1 len_g1 rep_g1) rfl (by decide) rfl) ax_nil)) (o_catL (by simp))) (by kernel_rfl)) ?_)
  refine ss_cons (s1_if (k := false) (tx_not (k := true) (tx_val (ex_call Dl hr (ax_cons (ex_nm 3) (ax_cons (EE.is (ex_rep (n := 22) (ax_cons (ex_nm 1) ax_nil) ex_int (by simp) (by decide) (by decide)) (show _ = Dt.lst (List.replicate 22 x) from rfl)) ax_nil)) ⟨_, rfl, dp_l (fun d hd => by rw [(List.mem_replicate.mp hd).2]; exact hx.2.2) (by simp), rfl, rfl⟩))) (fun z => absurd z (by simp)) fun _ => ss_nil ?_)
  refine ss_consSh ?_
  refine (s1_setSh 4 sc_Lkept.nd (d := .lst ([3, 4, 5, 6, 7, 10].map fun i => Dt.exc (cl i) (cks i) (cfs i [x, y]))) (EE.is (ex_ls (
      ax_cons (ex_exc (C.xm 3 (by decide)) (roomD hr) (ax_cons (ex_nm 1) (ax_cons (ex_nm 2) ax_nil))) <|
      ax_cons (ex_exc (C.xm 4 (by decide)) (roomD hr) (ax_cons (ex_nm 1) (ax_cons (ex_nm 2) ax_nil))) <|
      ax_cons (ex_exc (C.xm 5 (by decide)) (roomD hr) (ax_cons (ex_nm 1) (ax_cons (ex_nm 2) ax_nil))) <|
      ax_cons (ex_exc (C.xm 6 (by decide)) (roomD hr) (ax_cons (ex_nm 1) (ax_cons (ex_nm 2) ax_nil))) <|
      ax_cons (ex_exc (C.xm 7 (by decide)) (roomD hr) (ax_cons (ex_nm 1) (ax_cons (ex_nm 2) ax_nil))) <|
      ax_cons (ex_exc (C.xm 10 (by decide)) (roomD hr) (ax_cons (ex_nm 1) (ax_cons (ex_nm 2) ax_nil))) ax_nil)) (by kernel_rfl)) ?_)
  refine ss_consSh ?_
  refine (s1_setSh 4 sc_Lkept.nd (d := .lst ([3, 4, 5, 6, 7, 10, 3, 4, 5, 6, 7, 10].map fun i => Dt.exc (cl i) (cks i) (cfs i [x, y]))) (EE.is (ex_bin (ex_nm 4) (ex_ls (
      ax_cons (ex_excK (g := g2) (ps := cps 3) (C.xm 3 (by decide)) (roomD hr) kbx3 (kx_cons (ex_nm 2) (kx_cons (ex_nm 1) kx_nil)) rfl rfl vals_g2 len_g2 rep_g2) <|
      ax_cons (ex_excK (g := g2) (ps := cps 4) (C.xm 4 (by decide)) (roomD hr) kbx4 (kx_cons (ex_nm 2) (kx_cons (ex_nm 1) kx_nil)) rfl rfl vals_g2 len_g2 rep_g2) <|
      ax_cons (ex_excK (g := g2) (ps := cps 5) (C.xm 5 (by decide)) (roomD hr) kbx5 (kx_cons (ex_nm 2) (kx_cons (ex_nm 1) kx_nil)) rfl rfl vals_g2 len_g2 rep_g2) <|
      ax_cons (ex_excK (g := g2) (ps := cps 6) (C.xm 6 (by decide)) (roomD hr) kbx6 (kx_cons (ex_nm 2) (kx_cons (ex_nm 1) kx_nil)) rfl rfl vals_g2 len_g2 rep_g2) <|
      ax_cons (ex_excK (g := g2) (ps := cps 7) (C.xm 7 (by decide)) (roomD hr) kbx7 (kx_cons (ex_nm 2) (kx_cons (ex_nm 1) kx_nil)) rfl rfl vals_g2 len_g2 rep_g2) <|
      ax_cons (ex_excK (g := g2) (ps := cps 10) (C.xm 10 (by decide)) (roomD hr) kbx10 (kx_cons (ex_nm 2) (kx_cons (ex_nm 1) kx_nil)) rfl rfl vals_g2 len_g2 rep_g2) ax_nil)) (o_catL (by simp))) (by kernel_rfl)) ?_)
  refine ss_cons (s1_if (k := false) (tx_not (k := true) (tx_val (ex_call Dl hr (ax_cons (d := .lst (List.replicate 12 (.lst [x, y]))) (EE.is (ex_lcMap 5 (fun _ => Dt.lst [x, y]) rfl sc_Lkept.nd (ix_lst (ex_nm 4)) (by exact (show BlkOk N_Lkept (defScope s_Lkept) _ [("item", 5)] from ⟨rfl, by decide +kernel, by decide +kernel, by decide +kernel, by decide +kernel⟩)) (by simp) fun d hd s H C' cl' fp => ?_) rfl) (ax_cons (EE.is (ex_rep (n := 12) (ax_cons (ex_ls (ax_cons (ex_nm 1) (ax_cons (ex_nm 2) ax_nil))) ax_nil) ex_int (by simp) (by decide) (by decide)) (show _ = Dt.lst (List.replicate 12 (.lst [x, y])) from rfl)) ax_nil)) ⟨_, rfl, dp_l (fun d hd => ?_) (by simp), rfl, rfl⟩))) (fun z => absurd z (by simp)) fun _ => ss_nil ?_)
  · obtain ⟨i, hi, rfl⟩ := List.mem_map.mp hd
    have hi2 : i ∈ [3, 4, 5, 6, 7, 10] := by
      simp at hi ⊢
      omega
    have hi20 : i < 20 := by
      simp at hi2
      omega
    have ek := lw_ks i hi2
    have no : ∀ g ∈ [("line" : Str), "why"], PySem.W.findIn K (.ref (cl i)) g = some none := fun g hg => C.no i hi20 g (by
      have : cps i = [("line" : Str), "why"] := (show ∀ i ∈ [3, 4, 5, 6, 7, 10], cps i = [("line" : Str), "why"] by decide +kernel) i hi2
      rw [this]
      exact List.mem_cons_of_mem _ hg)
    exact ex_ls (ax_cons (ex_fld 1 (C.xf i hi20) (no _ (by simp)) excV_exc (ex_nm 5) (by rw [ek]; rfl) (by rw [ek]; decide) rfl) (ax_cons (ex_fld 0 (C.xf i hi20) (no _ (by simp)) excV_exc (ex_nm 5) (by rw [ek]; rfl) (by rw [ek]; decide) rfl) ax_nil))
  · rw [(List.mem_replicate.mp hd).2]
    exact dp_l (fun d hd => by
      simp at hd
      rcases hd with rfl | rfl
      · exact hx.2.1
      · exact hy.2.1) (by simp)
  refine ss_consSh ?_
  refine (s1_setSh 6 sc_Lkept.nd (d := .lst (List.replicate 6 x)) (EE.is (ex_ls (
      ax_cons (ex_fld 1 (C.xf 8 (by decide)) (C.no 8 (by decide) _ (by decide)) excV_exc (ex_exc (C.xm 8 (by decide)) (roomD hr) (ax_cons (ex_nm 1) (ax_cons (ex_nm 2) ax_nil))) rfl (by decide) rfl) <|
      ax_cons (ex_fld 1 (C.xf 8 (by decide)) (C.no 8 (by decide) _ (by decide)) excV_exc (ex_excK (g := g2) (ps := cps 8) (C.xm 8 (by decide)) (roomD hr) kbx8 (kx_cons (ex_nm 2) (kx_cons (ex_nm 1) kx_nil)) rfl rfl vals_g2 len_g2 rep_g2) rfl (by decide) rfl) <|
      ax_cons (ex_fld 1 (C.xf 12 (by decide)) (C.no 12 (by decide) _ (by decide)) excV_exc (ex_exc (C.xm 12 (by decide)) (roomD hr) (ax_cons (ex_nm 1) (ax_cons (ex_nm 2) ax_nil))) rfl (by decide) rfl) <|
      ax_cons (ex_fld 1 (C.xf 12 (by decide)) (C.no 12 (by decide) _ (by decide)) excV_exc (ex_excK (g := g2) (ps := cps 12) (C.xm 12 (by decide)) (roomD hr) kbx12 (kx_cons (ex_nm 2) (kx_cons (ex_nm 1) kx_nil)) rfl rfl vals_g2 len_g2 rep_g2) rfl (by decide) rfl) <|
      ax_cons (ex_fld 1 (C.xf 17 (by decide)) (C.no 17 (by decide) _ (by decide)) excV_exc (ex_exc (C.xm 17 (by decide)) (roomD hr) (ax_cons (ex_nm 1) (ax_cons (ex_nm 2) ax_nil))) rfl (by decide) rfl) <|
      ax_cons (ex_fld 1 (C.xf 17 (by decide)) (C.no 17 (by decide) _ (by decide)) excV_exc (ex_excK (g := g2) (ps := cps 17) (C.xm 17 (by decide)) (roomD hr) kbx17 (kx_cons (ex_nm 2) (kx_cons (ex_nm 1) kx_nil)) rfl rfl vals_g2 len_g2 rep_g2) rfl (by decide) rfl) ax_nil)) (by kernel_rfl)) ?_)
  refine ss_consSh ?_
  refine (s1_setSh 7 sc_Lkept.nd (d := .lst (List.replicate 6 y)) (EE.is (ex_ls (
      ax_cons (ex_fld 0 (C.xf 8 (by decide)) (C.no 8 (by decide) _ (by decide)) excV_exc (ex_exc (C.xm 8 (by decide)) (roomD hr) (ax_cons (ex_nm 1) (ax_cons (ex_nm 2) ax_nil))) rfl (by decide) rfl) <|
      ax_cons (ex_fld 0 (C.xf 8 (by decide)) (C.no 8 (by decide) _ (by decide)) excV_exc (ex_excK (g := g2) (ps := cps 8) (C.xm 8 (by decide)) (roomD hr) kbx8 (kx_cons (ex_nm 2) (kx_cons (ex_nm 1) kx_nil)) rfl rfl vals_g2 len_g2 rep_g2) rfl (by decide) rfl) <|
      ax_cons (ex_fld 0 (C.xf 12 (by decide)) (C.no 12 (by decide) _ (by decide)) excV_exc (ex_exc (C.xm 12 (by decide)) (roomD hr) (ax_cons (ex_nm 1) (ax_cons (ex_nm 2) ax_nil))) rfl (by decide) rfl) <|
      ax_cons (ex_fld 0 (C.xf 12 (by decide)) (C.no 12 (by decide) _ (by decide)) excV_exc (ex_excK (g := g2) (ps := cps 12) (C.xm 12 (by decide)) (roomD hr) kbx12 (kx_cons (ex_nm 2) (kx_cons (ex_nm 1) kx_nil)) rfl rfl vals_g2 len_g2 rep_g2) rfl (by decide) rfl) <|
      ax_cons (ex_fld 0 (C.xf 17 (by decide)) (C.no 17 (by decide) _ (by decide)) excV_exc (ex_exc (C.xm 17 (by decide)) (roomD hr) (ax_cons (ex_nm 1) (ax_cons (ex_nm 2) ax_nil))) rfl (by decide) rfl) <|
      ax_cons (ex_fld 0 (C.xf 17 (by decide)) (C.no 17 (by decide) _ (by decide)) excV_exc (ex_excK (g := g2) (ps := cps 17) (C.xm 17 (by decide)) (roomD hr) kbx17 (kx_cons (ex_nm 2) (kx_cons (ex_nm 1) kx_nil)) rfl rfl vals_g2 len_g2 rep_g2) rfl (by decide) rfl) ax_nil)) (by kernel_rfl)) ?_)
  refine ss_one (s1_ret (EE.is (ex_and (k := true) (k2 := true) (ex_call Dl hr (ax_cons (ex_ls (ax_cons (ex_nm 6) (ax_cons (ex_nm 7) ax_nil))) (ax_cons (ex_ls (ax_cons (EE.is (ex_rep (n := 6) (ax_cons (ex_nm 1) ax_nil) ex_int (by simp) (by decide) (by decide)) (show _ = Dt.lst (List.replicate 6 x) from rfl)) (ax_cons (EE.is (ex_rep (n := 6) (ax_cons (ex_nm 2) ax_nil) ex_int (by simp) (by decide) (by decide)) (show _ = Dt.lst (List.replicate 6 y) from rfl)) ax_nil))) ax_nil)) ⟨_, rfl, dp_l (fun d hd => ?_) (by simp), rfl, rfl⟩) fun _ => ex_one (ex_call Dc hr (ax_cons (ex_nm 1) (ax_cons (ex_nm 2) ax_nil)) ⟨x, y, rfl, rfl, rfl⟩)) rfl) (.of hR))
  rcases List.mem_cons.mp hd with rfl | hd
  · exact dp_l (fun d hd => by rw [(List.mem_replicate.mp hd).2]; exact hx.2.1) (by simp)
  · rw [List.mem_singleton.mp hd]
    exact dp_l (fun d hd => by rw [(List.mem_replicate.mp hd).2]; exact hy.2.1) (by simp)
end
end K1

set_option Elab.async false
set_option linter.all false
set_option maxRecDepth 100000
set_option maxHeartbeats 1000000
set_option exponentiation.threshold 100000
/-! K23: _law_by_base. -/
namespace K1
open PySem PySem.Spec PyProof.Rows L2 HM TX XN L2H LM L2N
def cBase : Ct := fun ds M R _ => ds = [] ∧ R (.bl true) M
section
variable {P : Program} {w : World} {K : PySem.W.Frag} {mg : Str → Option Value} {base : Heap} {cl : Nat → Addr}
theorem b_Lby_base (B : Bl mg) (C : Cls P K mg cl) (Pr : Prg P w K mg base cl) : BodyOk P w K mg base N_Lby_base [] "_law_by_base" s_Lby_base 5 cBase := by
  intro f cdv A outer s H E ds M R Z hr hl ⟨e, hR⟩
  subst e
  have hu : (Xd P w K mg base N_Lby_base "_law_by_base" s_Lby_base f cdv A outer s H E).A.units + 64 < cLine := by have := hr.un; omega
  refine ss_cons (s1_newL 0 sc_Lby_base.nd ax_nil fun p hp => ?_)
  refine ss_cons (s1_try (css := [[.ref (cl 20)]]) 1 (fun G' C' ks fs M' => G' = [some (.raw (.ref p)), none] ∧ ZOne cl 1 [.non] ((p, .l []) :: M) C' ks fs M') sc_Lby_base.nd (.cons (test1 ⟨rfl, by decide, .inl C.me⟩) .nil) ?_ ?_)
  · intro pn xe hp'
    refine ss_one (s1_exprZ (ez_call Pr.lowest hr (ax_cons ex_non ax_nil) (R := fun _ _ => False) (Z := ZOne cl 1 [.non] ((p, .l []) :: M)) ⟨.non, rfl, rfl, (fun h => by cases h), ⟨rfl, rfl, rfl, rfl⟩⟩) (fun d M' h _ => h.elim) fun C' ks fs M' h _ => ⟨rfl, h⟩)
  · rintro G' C' ks fs M' ⟨rfl, rfl, rfl, rfl, rfl⟩
    refine ⟨true, (C.ex 1 (by decide) [20] (by decide)).trans (by decide +kernel), fun _ a dd oe pn hz hf => ?_, fun z => absurd z (by simp)⟩
    have hV : ExcV ((Xd P w K mg base N_Lby_base "_law_by_base" s_Lby_base f cdv A outer s H E).suite a ((a, oe) :: pn)) (.cau a dd (cl 1) (cks 1) (cfs 1 [.non])) (cl 1) (cks 1) (cfs 1 [.non]) := excV_cau (oe := oe) List.mem_cons_self hz.zc hf
    refine ss_one (s1_expr (ex_append (ex_nm 0) (ex_fld 1 (C.xf 1 (by decide)) (C.no 1 (by decide) _ (by decide)) hV (ex_nm 1) rfl (by decide) rfl) (by decide) List.mem_cons_self) ?_)
    refine ss_cons (s1_try (css := [[.ref (cl 20)]]) 1 (fun G' C' ks fs M' => G' = [some (.raw (.ref p)), none] ∧ ZOne cl 2 [.int (-1)] ((p, .l [.str "BadFraction"]) :: M) C' ks fs M') sc_Lby_base.nd (.cons (test1 ⟨rfl, by decide, .inl C.me⟩) .nil) ?_ ?_)
    · intro pn xe hp'
      refine ss_one (s1_exprZ (ez_call Pr.raised hr (ax_cons (ex_tp (ax_cons ex_int (ax_cons ex_int ax_nil))) (ax_cons (ex_neg ex_int) ax_nil)) (R := fun _ _ => False) (Z := ZOne cl 2 [.int (-1)] ((p, .l [.str "BadFraction"]) :: M)) ⟨.tup [.int 1, .int 2], .int (-1), rfl, rfl, rfl, fun _ => ⟨by decide, by decide⟩, (fun h => by cases h), ⟨rfl, rfl, rfl, rfl⟩⟩) (fun d M' h _ => h.elim) fun C' ks fs M' h _ => ⟨rfl, h⟩)
    · rintro G' C' ks fs M' ⟨rfl, rfl, rfl, rfl, rfl⟩
      refine ⟨true, (C.ex 2 (by decide) [20] (by decide)).trans (by decide +kernel), fun _ a dd oe pn hz hf => ?_, fun z => absurd z (by simp)⟩
      have hV : ExcV ((Xd P w K mg base N_Lby_base "_law_by_base" s_Lby_base f cdv A outer s H E).suite a ((a, oe) :: pn)) (.cau a dd (cl 2) (cks 2) (cfs 2 [.int (-1)])) (cl 2) (cks 2) (cfs 2 [.int (-1)]) := excV_cau (oe := oe) List.mem_cons_self hz.zc hf
      refine ss_one (s1_expr (ex_append (ex_nm 0) (ex_fld 1 (C.xf 2 (by decide)) (C.no 2 (by decide) _ (by decide)) hV (ex_nm 1) rfl (by decide) rfl) (by decide) List.mem_cons_self) ?_)
      refine ss_freeze 0 rfl ?_
      exact ss_one (s1_ret (ex_cp (d1 := .lst ([("BadFraction" : Str), "BadNumber"].map Dt.str)) (d2 := .lst ([("BadFraction" : Str), "BadNumber"].map Dt.str)) (ex_nm 0) (ex_ls (ax_cons ex_str (ax_cons ex_str ax_nil))) (c_eqSs hu (by decide +kernel) (by decide +kernel) (by decide +kernel))) (.of hR))
end
end K1

set_option Elab.async false
set_option linter.all false
set_option maxRecDepth 100000
set_option maxHeartbeats 1000000
set_option exponentiation.threshold 100000
/-! K24: defs with lambdas: their code object is known; _law_pairs. -/
namespace K1
open PySem PySem.Spec PyProof.Rows L2 HM TX XN L2H LM L2N LamX
/-- a body whose code object is at c -/
def BodyOkC (P : Program) (w : World) (K : PySem.W.Frag) (mg : Str → Option Value) (base : Heap) (N ps : List Str) (qual : Str) (st : Stmt) (k : Nat) (c : Addr) (W : Ct) : Prop :=
  ∀ (f : Addr) (A : Around) (outer : List Env) (s : Shared) (H : Hp) (E : XK) (ds : List Dt) (M : Mst) (R : Dt → Mst → Prop) (Z : Er), Room k (Xd P w K mg base N qual st f (.ref c) A outer s H E).A → ds.length = ps.length → W ds M R Z →
    SS (Xd P w K mg base N qual st f (.ref c) A outer s H E) (defBody st) (ds.map some ++ List.replicate (N.length - ds.length) none) M (PoF M R Z)
/-- the name of the lambdas in the def -/
def lamQ (qual : Str) : Str := (qual ++ ".<locals>.") ++ "<lambda>"
theorem fit_dp {d : Dt} {n : Nat} (h : isFr d = true) : dp (n + 2) d = true := by
  rcases isFr_cases h with ⟨k, rfl⟩ | ⟨a, b, rfl, _⟩ <;> rfl
theorem fit_pl {d : Dt} (h : isFr d = true) : plD d = true := by
  rcases isFr_cases h with ⟨k, rfl⟩ | ⟨a, b, rfl, _⟩ <;> rfl
theorem pl_ints : ∀ l : List Int, plDs (l.map Dt.int) = true
  | [] => rfl
  | i :: l => by
    show (true && plDs (l.map Dt.int)) = true
    rw [pl_ints l]
    rfl
theorem pl_cells (b : Bx) : plDs b.cells = true := by
  show (plDs (b.its.map Dt.int) && true) = true
  rw [pl_ints]
  rfl
theorem plM_box {p : Addr} {b : Bx} {M0 : Mst} (h : plM M0 = true) : plM ((p, .l b.cells) :: M0) = true := by
  show (plDs b.cells && plM M0) = true
  rw [pl_cells, h]
  rfl
def pairA (b : Bx) : Bx := (draw (draw b 5).2 5).2
def pairM (b : Bx) : Bx := (draw (pairA b) 13).2
theorem pairM_ok {k : Int} {b : Bx} (h : Bd k b) : Bd (k + 3) (pairM b) :=
  (draw_ok (size := 13) (draw_ok (size := 5) (draw_ok (size := 5) h (by decide)).1 (by decide)).1 (by decide)).1.mono (by omega)
def cPairs (PT : Addr) : Ct := fun ds M R _ => ∃ (p : Addr) (b : Bx) (M0 : Mst) (items : List Dt), ds = [.raw (.ref p), .lst items] ∧ M = (p, .l b.cells) :: M0 ∧ Bd 998000 b ∧ items.length = 5 ∧ (∀ x ∈ items, Fit x) ∧ (PT, Mu.t (lamQ "_law_pairs")) ∈ M0 ∧ plM M0 = true ∧
  R (.bl true) ((p, .l (pairM b).cells) :: M0)
theorem pick {b : Bx} {k : Int} (h : Bd k b) {items : List Dt} (hl : items.length = 5) : ∃ d ∈ items, items[(draw b 5).1.toNat]? = some d ∧ (draw b 5).1 = ((draw b 5).1.toNat : Int) := by
  obtain ⟨_, h0, h1⟩ := draw_ok (size := 5) h (by decide)
  have hlt : (draw b 5).1.toNat < items.length := by omega
  exact ⟨items[(draw b 5).1.toNat], List.getElem_mem hlt, List.getElem?_eq_getElem hlt, by omega⟩
theorem fit_sz {d : Dt} (h : Fit d) : 0 < (red d).2 ∧ Sz 200 (red d) := ⟨(Red.red h.1).1, Sz.red h.2⟩
theorem sz_bits {p : Nat × Nat} (h : Sz 200 p) : ¬ 12000 < bitN p ∧ p.1 < 10 ^ 4300 ∧ p.2 < 10 ^ 4300 := by
  have k : ∀ n : Nat, n ≤ 2 ^ 200 → Builtin.Int.intBits (n : Int) ≤ 201 := fun n hn => by
    refine PySem.intBits_le_iff.mpr ?_
    have : (2 : Nat) ^ 200 < 2 ^ 201 := by decide
    simpa using Nat.lt_of_le_of_lt hn this
  have big : (2 : Nat) ^ 200 < 10 ^ 4300 := by decide +kernel
  refine ⟨?_, Nat.lt_of_le_of_lt h.1 big, Nat.lt_of_le_of_lt h.2 big⟩
  have h1 := k p.1 h.1
  have h2 := k p.2 h.2
  have : bitN p ≤ 201 := Nat.max_le.mpr ⟨h1, h2⟩
  omega
theorem low_ok {cl : Nat → Addr} {d : Dt} {M : Mst} {R : Dt → Mst → Prop} {Z : Er} (h : Fit d) (q : R (pr (red d)) M) : cLowest cl [d] M R Z := ⟨d, rfl, isFr.okd h.1, fun _ => h.2.mono (by decide), orBad_ok (by simp [h.1]) q⟩
theorem text_ok {cl : Nat → Addr} {d : Dt} {M : Mst} {R : Dt → Mst → Prop} {Z : Er} (h : Fit d) (q : R (.str (wordN (red d))) M) : cText cl [d] M R Z := ⟨d, rfl, isFr.okd h.1, fun _ => gs h.1 h.frs, orBad_ok (by simp [h.1]) (by rw [if_neg (sz_bits (fit_sz h).2).1]; exact q)⟩
theorem okd2 {a b : Dt} (ha : Fit a) (hb : Fit b) : [a, b].all okd = true := by simp [isFr.okd ha.1, isFr.okd hb.1]
theorem apart_ok {cl : Nat → Addr} {a b : Dt} {M : Mst} {R : Dt → Mst → Prop} {Z : Er} (ha : Fit a) (hb : Fit b) (q : R (pr (gapN (red a) (red b))) M) : cApart cl [a, b] M R Z := ⟨a, b, rfl, okd2 ha hb, ha.frs, hb.frs, orBad_ok (by simp [ha.1, hb.1]) q⟩
theorem less_ok {cl : Nat → Addr} {a b : Dt} {M : Mst} {R : Dt → Mst → Prop} {Z : Er} (ha : Fit a) (hb : Fit b) (q : R (.bl (decide ((red a).1 * (red b).2 < (red b).1 * (red a).2))) M) : cLess cl [a, b] M R Z := ⟨a, b, rfl, okd2 ha hb, ha.frs, hb.frs, orBad_ok (by simp [ha.1, hb.1]) q⟩
theorem raised_ok {cl : Nat → Addr} {a : Dt} {n : Nat} {M : Mst} {R : Dt → Mst → Prop} {Z : Er} (ha : Fit a) (hn : n ≤ 40) (q : R (pr ((red a).1 ^ n, (red a).2 ^ n)) M) : cRaised cl [a, .int (n : Int)] M R Z :=
  ⟨a, _, rfl, isFr.okd ha.1, rfl, ha.frs, fun _ => by show (n : Int).toNat ≤ 40; omega, orBad_ok (by simp [ha.1]) (by
    rw [if_pos (show isCnt (.int (n : Int)) = true by simp [isCnt])]
    exact q)⟩
theorem quot_ok {cl : Nat → Addr} {a b : Dt} {M : Mst} {R : Dt → Mst → Prop} {Z : Er} (ha : Fit a) (hb : Fit b) (h : ¬ (red b).1 = 0) (q : R (pr (lowN ((red a).1 * (red b).2) ((red a).2 * (red b).1))) M) : cQuot cl [a, b] M R Z :=
  ⟨a, b, rfl, okd2 ha hb, ha.frs, hb.frs, orBad_ok (by simp [ha.1, hb.1]) (by rw [if_neg h]; exact q)⟩
theorem quot_bad {cl : Nat → Addr} {a b : Dt} {M : Mst} {R : Dt → Mst → Prop} {Z : Er} (ha : Fit a) (hb : Fit b) (h : (red b).1 = 0) (q : Z (cl 1) (cks 1) (cfs 1 [b]) M) : cQuot cl [a, b] M R Z :=
  ⟨a, b, rfl, okd2 ha hb, ha.frs, hb.frs, orBad_ok (by simp [ha.1, hb.1]) (by rw [if_pos h]; exact q)⟩
theorem gapN_self {x : Nat × Nat} (h : 0 < x.2) : gapN x x = (0, 1) := by
  unfold gapN lowN
  rw [Int.sub_self, Int.natAbs_zero, Nat.gcd_zero_left, Nat.zero_div, Nat.div_self (Nat.mul_pos h h)]
theorem gapN_comm (x y : Nat × Nat) : gapN x y = gapN y x := by
  unfold gapN
  rw [← Int.natAbs_neg, Int.neg_sub, Nat.mul_comm x.2]
section
variable {P : Program} {w : World} {K : PySem.W.Frag} {mg : Str → Option Value} {base : Heap} {cl : Nat → Addr}
theorem b_Lpairs {c PT : Addr} (TB : TabB base mg c PT) (B : Bl mg) (C : Cls P K mg cl) (Pr : Prg P w K mg base cl) (Pk : PrgK P w K mg base cl) (D : Df P w K mg base "_law_draw" 1 cDraw) (Dx : Df P w K mg base "_law_fixed" 2 cFixed) (Dw : Df P w K mg base "_law_word" 1 cWord)
    (Dg : Df P w K mg base "_law_gap" 2 (cPair2 4000 fun p q => pr (gapN p q))) (Ds : Df P w K mg base "_law_less" 1 (cPair2 4000 fun p q => .bl (decide (p.1 * q.2 < q.1 * p.2)))) (Dp : Df P w K mg base "_law_raised" 1 cLraised) (Dm : Df P w K mg base "_law_low" 1 cLow)
    (Df1 : Df P w K mg base "_law_refused" 13 (cRefused cl P w K mg base)) (Dl : Df P w K mg base "_law_like" 12 (cLike 12)) : BodyOkC P w K mg base N_Lpairs ["box", "items"] "_law_pairs" s_Lpairs 13 c (cPairs PT) := by
  intro f A outer s H E ds M R Z hr hl ⟨p, b, M0, items, e, eM, hb, hlen, hF, hT, hpl, hR⟩
  subst e eM
  obtain ⟨b1, d0, d1⟩ := draw_ok (size := 5) hb (by decide)
  obtain ⟨b2, e0, e1⟩ := draw_ok (size := 5) b1 (by decide)
  obtain ⟨b3, f0, f1⟩ := draw_ok (size := 13) b2 (by decide)
  obtain ⟨a, ha, ga, ia⟩ := pick hb hlen
  obtain ⟨q, hq, gq, iq⟩ := pick b1 hlen
  have fa := hF a ha
  have fq := hF q hq
  have sa := fit_sz fa
  have sq := fit_sz fq
  refine ss_cons (s1_asg (ex_tp (ax_cons (ex_at (ex_nm 1) (EE.is (ex_draw D hr hb.n10 (ex_nm 0) ex_int) (congrArg Dt.int ia)) (i_lst ga)) (ax_cons (ex_at (ex_nm 1) (EE.is (ex_draw D hr b1.n10 (ex_nm 0) ex_int) (congrArg Dt.int iq)) (i_lst gq)) ax_nil))) (gx_tup rfl (gxs_cons (gx_nm 2 sc_Lpairs.nd) (gxs_cons (gx_nm 3 sc_Lpairs.nd) gxs_nil))) ?_)
  obtain ⟨n, hn⟩ : ∃ n : Nat, n = (draw (draw (draw b 5).2 5).2 13).1.toNat := ⟨_, rfl⟩
  have iN : (draw (draw (draw b 5).2 5).2 13).1 = (n : Int) := by omega
  have n12 : n ≤ 12 := by omega
  refine ss_cons (s1_par3 4 5 6 rfl sc_Lpairs.nd (ax_cons (ex_call Dx hr (ax_cons (ex_nm 2) ax_nil) ⟨a, rfl, fa.1, gs fa.1 fa.frs, rfl, rfl⟩) (ax_cons (ex_call Dx hr (ax_cons (ex_nm 3) ax_nil) ⟨q, rfl, fq.1, gs fq.1 fq.frs, rfl, rfl⟩) (ax_cons (EE.is (ex_draw D hr b2.n10 (ex_nm 0) ex_int) (congrArg Dt.int iN)) ax_nil))) ?_)
  have mk : ∀ {x y : Nat × Nat} {W : (Nat × Nat) → (Nat × Nat) → Dt} (M), 0 < x.2 ∧ Sz 200 x → 0 < y.2 ∧ Sz 200 y → cPair2 4000 W [pr x, pr y] M (fun d' M' => d' = W x y ∧ M' = M) E00 := fun M hx hy => ⟨_, _, rfl, hx.1, hy.1, hx.2.mono (by decide), hy.2.mono (by decide), rfl, rfl⟩
  have wd : ∀ {x : Nat × Nat} (M), Sz 200 x → cWord [pr x] M (fun d' M' => d' = .str (wordN x) ∧ M' = M) E00 := fun M hx => ⟨_, rfl, (sz_bits hx).2.1, (sz_bits hx).2.2, rfl, rfl⟩
  refine ss_cons (s1_if (k := false) (tx_not (k := true) (tx_val (ex_call Dl hr (ax_cons (ex_ls (ax_cons (ex_call Pr.lowest hr (ax_cons (ex_nm 2) ax_nil) (low_ok fa ⟨rfl, rfl⟩)) (ax_cons (ex_call Pr.text hr (ax_cons (ex_nm 2) ax_nil) (text_ok fa ⟨rfl, rfl⟩)) (ax_cons (ex_k1 Pk.lowest kb_lowest hr (ex_nm 3) len_lowest (low_ok fq ⟨rfl, rfl⟩)) (ax_cons (ex_k1 Pk.text kb_text hr (ex_nm 3) len_text (text_ok fq ⟨rfl, rfl⟩)) ax_nil)))))
    (ax_cons (ex_ls (ax_cons (ex_nm 4) (ax_cons (ex_call Dw hr (ax_cons (ex_nm 4) ax_nil) (wd _ sa.2)) (ax_cons (ex_nm 5) (ax_cons (ex_call Dw hr (ax_cons (ex_nm 5) ax_nil) (wd _ sq.2)) ax_nil))))) ax_nil)) ⟨_, rfl, rfl, rfl, rfl⟩))) (fun z => absurd z (by simp)) fun _ => ss_nil ?_)
  refine ss_cons (s1_if (k := false) (tx_not (k := true) (tx_val (ex_call Dl hr (ax_cons (ex_ls (ax_cons (ex_call Pr.apart hr (ax_cons (ex_nm 2) (ax_cons (ex_nm 3) ax_nil)) (apart_ok fa fq ⟨rfl, rfl⟩)) (ax_cons (ex_call Pr.apart hr (ax_cons (ex_nm 3) (ax_cons (ex_nm 2) ax_nil)) (apart_ok fq fa ⟨congrArg pr (gapN_comm _ _), rfl⟩)) (ax_cons (ex_call Pr.apart hr (ax_cons (ex_nm 2) (ax_cons (ex_nm 2) ax_nil)) (apart_ok fa fa ⟨congrArg pr (gapN_self sa.1), rfl⟩)) (ax_cons (ex_k2 Pk.apart kb_apart hr (ex_nm 3) (ex_nm 2) len_apart (apart_ok fa fq ⟨rfl, rfl⟩)) ax_nil)))))
    (ax_cons (ex_ls (ax_cons (ex_call Dg hr (ax_cons (ex_nm 4) (ax_cons (ex_nm 5) ax_nil)) (mk _ sa sq)) (ax_cons (ex_call Dg hr (ax_cons (ex_nm 4) (ax_cons (ex_nm 5) ax_nil)) (mk _ sa sq)) (ax_cons (ex_tp (ax_cons ex_int (ax_cons ex_int ax_nil))) (ax_cons (ex_call Dg hr (ax_cons (ex_nm 4) (ax_cons (ex_nm 5) ax_nil)) (mk _ sa sq)) ax_nil))))) ax_nil)) ⟨_, rfl, rfl, rfl, rfl⟩))) (fun z => absurd z (by simp)) fun _ => ss_nil ?_)
  refine ss_cons (s1_set 7 sc_Lpairs.nd (ex_ls (ax_cons (ex_call Pr.less hr (ax_cons (ex_nm 2) (ax_cons (ex_nm 3) ax_nil)) (less_ok fa fq ⟨rfl, rfl⟩)) (ax_cons (ex_call Pr.less hr (ax_cons (ex_nm 3) (ax_cons (ex_nm 2) ax_nil)) (less_ok fq fa ⟨rfl, rfl⟩)) (ax_cons (d := .bl false) (ex_call Pr.less hr (ax_cons (ex_nm 3) (ax_cons (ex_nm 3) ax_nil)) (less_ok fq fq ⟨congrArg Dt.bl (decide_eq_false (Nat.lt_irrefl _)), rfl⟩)) (ax_cons (ex_k2 Pk.less kb_less hr (ex_nm 2) (ex_nm 3) len_less (less_ok fq fa ⟨rfl, rfl⟩)) ax_nil))))) ?_)
  refine ss_cons (s1_if (k := false) (tx_not (k := true) (tx_val (ex_call Dl hr (ax_cons (ex_nm 7) (ax_cons (ex_ls (ax_cons (ex_call Ds hr (ax_cons (ex_nm 4) (ax_cons (ex_nm 5) ax_nil)) (mk _ sa sq)) (ax_cons (ex_call Ds hr (ax_cons (ex_nm 5) (ax_cons (ex_nm 4) ax_nil)) (mk _ sq sa)) (ax_cons ex_bl (ax_cons (ex_call Ds hr (ax_cons (ex_nm 5) (ax_cons (ex_nm 4) ax_nil)) (mk _ sq sa)) ax_nil))))) ax_nil)) ⟨_, rfl, rfl, rfl, rfl⟩))) (fun z => absurd z (by simp)) fun _ => ss_nil ?_)
  refine ss_cons (s1_if (k := false) (tx_not (k := true) (tx_val (ex_call Dl hr (ax_cons (ex_ls (ax_cons (ex_call Pr.raised hr (ax_cons (ex_nm 2) (ax_cons (ex_nm 6) ax_nil)) (raised_ok fa (by omega) ⟨rfl, rfl⟩)) (ax_cons (d := pr (1, 1)) (ex_call Pr.raised hr (ax_cons (ex_nm 3) (ax_cons ex_int ax_nil)) (raised_ok (n := 0) fq (by omega) ⟨rfl, rfl⟩)) (ax_cons (d := pr (red a)) (ex_k2 Pk.raised kb_raised hr ex_int (ex_nm 2) len_raised (raised_ok (n := 1) fa (by omega) ⟨by rw [Nat.pow_one, Nat.pow_one], rfl⟩)) ax_nil))))
    (ax_cons (ex_ls (ax_cons (ex_call Dp hr (ax_cons (ex_nm 4) (ax_cons (ex_nm 6) ax_nil)) ⟨red a, n, rfl, sa.2, by omega, rfl, rfl⟩) (ax_cons (ex_tp (ax_cons ex_int (ax_cons ex_int ax_nil))) (ax_cons (ex_nm 4) ax_nil)))) ax_nil)) ⟨_, rfl, rfl, rfl, rfl⟩))) (fun z => absurd z (by simp)) fun _ => ss_nil ?_)
  refine ss_cons (s1_if (tx_cp (d2 := .int ((0 : Nat) : Int)) (ex_p0 (ex_nm 5)) ex_int c_eqN) (fun h => ?_) fun h => ss_nil ?_)
  · have h : (red q).1 = 0 := of_decide_eq_true h
    have dpq : dp 12 (outD 1 [q]) = true := dp_t (fun d hd => by
      rcases List.mem_cons.mp hd with rfl | hd
      · rfl
      · rw [List.mem_singleton.mp hd]
        exact fit_dp fq.1) (by simp)
    have hpA : plDs [a, q] = true := by simp [plDs, fit_pl fa.1, fit_pl fq.1]
    refine ss_one (s1_ret (ex_and (k := true) (k2 := true) (ex_lamcall (fr := ["a", "b"]) (l := [a, q]) (Rc := fun _ _ => False) (Zc := ZOne cl 1 [q] _) (k := 6) Df1 hr (by decide) TB rfl (List.mem_cons_of_mem _ hT) (ls_by (by decide +kernel)) rfl (fun _ _ _ _ _ => rfl) (show ∀ y ∈ [("a" : Str), "b"], (defScope s_Lpairs).names.lookup y = some .cell by decide +kernel) (by decide +kernel) (fun _ _ => rfl) [2, 3] rfl rfl hpA (plM_box hpl) (ex_tp (ax_cons ex_str (ax_cons (ex_nm 3) ax_nil)))
      (fun f c' cl' A outer s H E hr' => ez_call Pr.quotient hr' (ax_cons (ex_nm 0) (ax_cons (ex_nm 1) ax_nil)) (quot_bad fa fq h ⟨rfl, rfl, rfl, rfl⟩)) (fun f L vs F => ⟨f, L, _, vs, 1, [q], rfl, .inl rfl, rfl, F, dpq, rfl, rfl⟩))
      fun _ => ex_one (ex_lamcall (fr := ["a", "b"]) (l := [a, q]) (Rc := fun _ _ => False) (Zc := ZOne cl 1 [q] _) (k := 6) Df1 hr (by decide) TB rfl (List.mem_cons_of_mem _ hT) (ls_by (by decide +kernel)) rfl (fun _ _ _ _ _ => rfl) (show ∀ y ∈ [("a" : Str), "b"], (defScope s_Lpairs).names.lookup y = some .cell by decide +kernel) (by decide +kernel) (fun _ _ => rfl) [2, 3] rfl rfl hpA (plM_box hpl) (ex_tp (ax_cons ex_str (ax_cons (ex_nm 3) ax_nil)))
      (fun f c' cl' A outer s H E hr' => ez_callK Pk.quotient hr' kb_quotient (kx_cons (ex_nm 1) (kx_cons (ex_nm 0) kx_nil)) vals_g2 len_g2 rep_g2 len_quot (quot_bad fa fq h ⟨rfl, rfl, rfl, rfl⟩)) (fun f L vs F => ⟨f, L, _, vs, 1, [q], rfl, .inl rfl, rfl, F, dpq, rfl, rfl⟩))) (.of hR))
  · have h : ¬ (red q).1 = 0 := of_decide_eq_false h
    have m1 : (red a).1 * (red q).2 ≤ 2 ^ 400 := mulP sa.2.1 sq.2.2
    have m2 : (red a).2 * (red q).1 ≤ 2 ^ 400 := mulP sa.2.2 sq.2.1
    have m0 : 0 < (red a).2 * (red q).1 := Nat.mul_pos sa.1 (Nat.pos_of_ne_zero h)
    exact ss_one (s1_ret (ex_call Dl hr (ax_cons (ex_ls (ax_cons (ex_call Pr.quotient hr (ax_cons (ex_nm 2) (ax_cons (ex_nm 3) ax_nil)) (quot_ok fa fq h ⟨rfl, rfl⟩)) (ax_cons (ex_k2 Pk.quotient kb_quotient hr (ex_nm 3) (ex_nm 2) len_quot (quot_ok fa fq h ⟨rfl, rfl⟩)) ax_nil)))
      (ax_cons (ex_ls (ax_cons (ex_low Dm hr (ex_bin (ex_p0 (ex_nm 4)) (ex_p1 (ex_nm 5)) (o_mulN sa.2.1 sq.2.2 (by decide))) (ex_bin (ex_p1 (ex_nm 4)) (ex_p0 (ex_nm 5)) (o_mulN sa.2.2 sq.2.1 (by decide))) (gpos m0) (gcd_le_of m0 m2 (by decide))) (ax_cons (ex_low Dm hr (ex_bin (ex_p0 (ex_nm 4)) (ex_p1 (ex_nm 5)) (o_mulN sa.2.1 sq.2.2 (by decide))) (ex_bin (ex_p1 (ex_nm 4)) (ex_p0 (ex_nm 5)) (o_mulN sa.2.2 sq.2.1 (by decide))) (gpos m0) (gcd_le_of m0 m2 (by decide))) ax_nil))) ax_nil)) ⟨_, rfl, rfl, rfl, rfl⟩) (.of hR))
end
end K1

set_option Elab.async false
set_option linter.all false
set_option maxRecDepth 100000
set_option maxHeartbeats 1000000
set_option exponentiation.threshold 100000
/-! K25: what _law_wrong asks of _law_call; the drawn values. -/
namespace K1
open PySem PySem.Spec PyProof.Rows L2 HM TX XN L2H LM L2N LamX
structure Val (d : Dt) : Prop where
  ok : okd d = true
  frs : FrS 200 d
  dp : dp 10 d = true ∧ dp 11 d = true
  pl : plD d = true
theorem odd_val : ∀ d ∈ oddL, Val d := fun d hd => ⟨(oddL_ok d hd).1, (oddL_ok d hd).2, (odd_dp d hd).2, List.all_eq_true.mp (show oddL.all plD = true by decide +kernel) d hd⟩
theorem Fit.val {d : Dt} (h : Fit d) : Val d := ⟨isFr.okd h.1, h.frs, ⟨fit_dp h.1, fit_dp h.1⟩, fit_pl h.1⟩
def valM (b : Bx) : Dt × Bx := if (draw b 2).1 = 0 then oddM (draw b 2).2 else fracM (draw b 2).2
theorem valM_ok {k : Int} {b : Bx} (h : Bd k b) : Bd (k + 6) (valM b).2 ∧ Val (valM b).1 := by
  have h1 := (draw_ok (size := 2) h (by decide)).1
  unfold valM
  split
  · exact ⟨(oddM_ok h1).1.mono (by omega), odd_val _ (oddM_ok h1).2⟩
  · exact ⟨(fracM_ok h1).1.mono (by omega), Fit.val ⟨(fracM_ok h1).2.1, (fracM_ok h1).2.2⟩⟩
def vst (b : Bx) : Nat → Bx
  | 0 => b
  | k + 1 => (valM (vst b k)).2
def vel (b : Bx) (k : Nat) : Dt := (valM (vst b k)).1
theorem vst_ok {k : Int} {b : Bx} (h : Bd k b) : ∀ n : Nat, Bd (k + 6 * n) (vst b n)
  | 0 => h.mono (by omega)
  | n + 1 => (valM_ok (vst_ok h n)).1.mono (by omega)
theorem vel_ok {k : Int} {b : Bx} (h : Bd k b) (n : Nat) : Val (vel b n) := (valM_ok (vst_ok h n)).2
def wrongM (b : Bx) : Bx := (draw (vst b 3) 8).2
theorem wrongM_ok {k : Int} {b : Bx} (h : Bd k b) : Bd (k + 19) (wrongM b) := (draw_ok (size := 8) (vst_ok h 3) (by decide)).1.mono (by omega)
/-! ### the calls -/
def usedL (n : Nat) (a b c : Dt) : List Dt := if n < 2 ∨ n = 7 then [a] else if n < 4 then [a, b, c] else [a, b]
theorem orBad_bad {cl : Nat → Addr} {l : List Dt} {Z : Er} {M : Mst} {o : Prop} {b : Dt} (h : badF l = some b) (q : Z (cl 1) (cks 1) (cfs 1 [b]) M) : orBad cl l Z M o := by
  unfold orBad
  rw [h]
  exact q
theorem orBad_none {cl : Nat → Addr} {l : List Dt} {Z : Er} {M : Mst} {o : Prop} (h : badF l = none) (q : o) : orBad cl l Z M o := orBad_ok (badF_none.mp h) q
def Cap (n : Nat) (b : Dt) : Prop := n = 7 → isCnt b = true → cntN b ≤ 40
section
variable {cl : Nat → Addr} {a b c : Dt} {M : Mst} {R : Dt → Mst → Prop} {Z : Er}
theorem val2 (ha : Val a) (hb : Val b) : [a, b].all okd = true := by simp [ha.ok, hb.ok]
theorem val3 (ha : Val a) (hb : Val b) (hc : Val c) : [a, b, c].all okd = true := by simp [ha.ok, hb.ok, hc.ok]
theorem fr3 (ha : Val a) (hb : Val b) (hc : Val c) : ∀ d ∈ [a, b, c], FrS 200 d := by
  intro d hd
  simp at hd
  rcases hd with rfl | rfl | rfl
  · exact ha.frs
  · exact hb.frs
  · exact hc.frs
theorem frs8 (ha : Val a) : FrS 8000 a := fun h => (ha.frs h).mono (by decide)
theorem gcdV (ha : Val a) : isFr a = true → Nat.gcd (frN a).1 (frN a).2 < 2 ^ 9000 := fun h => gs h ha.frs
theorem call_bad {d0 : Dt} {n : Nat} (hn : n < 8) (ha : Val a) (hb : Val b) (hc : Val c) (hcap : Cap n b) (h : badF (usedL n a b c) = some d0) (q : Z (cl 1) (cks 1) (cfs 1 [d0]) M) : cCall cl [.int (n : Int), a, b, c] M R Z :=
  match n, hn, hcap, h with
  | 0, _, _, h => ⟨0, a, b, c, rfl, by decide, (⟨a, rfl, ha.ok, frs8 ha, orBad_bad h q⟩ : cLowest cl [a] M R Z)⟩
  | 1, _, _, h => ⟨1, a, b, c, rfl, by decide, (⟨a, rfl, ha.ok, gcdV ha, orBad_bad h q⟩ : cText cl [a] M R Z)⟩
  | 2, _, _, h => ⟨2, a, b, c, rfl, by decide, (⟨[a, b, c], rfl, by simp, val3 ha hb hc, fr3 ha hb hc, orBad_bad h q⟩ : cPlus cl [.tup [a, b, c]] M R Z)⟩
  | 3, _, _, h => ⟨3, a, b, c, rfl, by decide, (⟨[a, b, c], rfl, by simp, val3 ha hb hc, fr3 ha hb hc, orBad_bad h q⟩ : cTimes cl [.tup [a, b, c]] M R Z)⟩
  | 4, _, _, h => ⟨4, a, b, c, rfl, by decide, (⟨a, b, rfl, val2 ha hb, ha.frs, hb.frs, orBad_bad h q⟩ : cQuot cl [a, b] M R Z)⟩
  | 5, _, _, h => ⟨5, a, b, c, rfl, by decide, (⟨a, b, rfl, val2 ha hb, ha.frs, hb.frs, orBad_bad h q⟩ : cApart cl [a, b] M R Z)⟩
  | 6, _, _, h => ⟨6, a, b, c, rfl, by decide, (⟨a, b, rfl, val2 ha hb, ha.frs, hb.frs, orBad_bad h q⟩ : cLess cl [a, b] M R Z)⟩
  | 7, _, hcap, h => ⟨7, a, b, c, rfl, by decide, (⟨a, b, rfl, ha.ok, hb.ok, ha.frs, hcap rfl, orBad_bad h q⟩ : cRaised cl [a, b] M R Z)⟩
theorem call_zero (ha : Val a) (hb : Val b) (hc : Val c) (h : badF [a, b] = none) (h0 : (red b).1 = 0) (q : Z (cl 1) (cks 1) (cfs 1 [b]) M) : cCall cl [.int ((4 : Nat) : Int), a, b, c] M R Z :=
  ⟨4, a, b, c, rfl, by decide, (⟨a, b, rfl, val2 ha hb, ha.frs, hb.frs, orBad_none h (by rw [if_pos h0]; exact q)⟩ : cQuot cl [a, b] M R Z)⟩
theorem call_num (ha : Val a) (hb : Val b) (hc : Val c) (h : isFr a = true) (h0 : isCnt b = false) (q : Z (cl 2) (cks 2) (cfs 2 [b]) M) : cCall cl [.int ((7 : Nat) : Int), a, b, c] M R Z :=
  ⟨7, a, b, c, rfl, by decide, (⟨a, b, rfl, ha.ok, hb.ok, ha.frs, (fun z => by rw [h0] at z; cases z), orBad_none (badF_none.mpr (by simp [h])) (by rw [h0]; exact q)⟩ : cRaised cl [a, b] M R Z)⟩
/-- what is due of the n-th function -/
def dueL (a b c : Dt) : List Dt := [pr (red a), .str (wordN (red a)), pr (total [red a, red b, red c]), pr (byN (byN (red a) (red b)) (red c)), .non, pr (gapN (red a) (red b)), .bl (decide ((red a).1 * (red b).2 < (red b).1 * (red a).2))]
theorem byN_one {x : Nat × Nat} (h : Red x) : byN (1, 1) x = x := by
  unfold byN
  rw [Nat.one_mul, Nat.one_mul]
  exact h.is
theorem call_ok {n : Nat} {d : Dt} (hn : n < 7) (h4 : n ≠ 4) (ha : Val a) (hb : Val b) (hc : Val c) (h : badF (usedL n a b c) = none) (hd : (dueL a b c)[n]? = some d) (q : R d M) : cCall cl [.int (n : Int), a, b, c] M R Z :=
  match n, hn, h4, h, hd with
  | 0, _, _, h, hd => by
    cases hd
    exact ⟨0, a, b, c, rfl, by decide, (⟨a, rfl, ha.ok, frs8 ha, orBad_none h q⟩ : cLowest cl [a] M R Z)⟩
  | 1, _, _, h, hd => by
    cases hd
    have hf := badF1 h
    exact ⟨1, a, b, c, rfl, by decide, (text_ok ⟨hf, ha.frs hf⟩ q : cText cl [a] M R Z)⟩
  | 2, _, _, h, hd => by
    cases hd
    exact ⟨2, a, b, c, rfl, by decide, (⟨[a, b, c], rfl, by simp, val3 ha hb hc, fr3 ha hb hc, orBad_none h q⟩ : cPlus cl [.tup [a, b, c]] M R Z)⟩
  | 3, _, _, h, hd => by
    cases hd
    have hf : isFr a = true := badF_none.mp h a (by simp [usedL])
    refine ⟨3, a, b, c, rfl, by decide, (⟨[a, b, c], rfl, by simp, val3 ha hb hc, fr3 ha hb hc, orBad_none h ?_⟩ : cTimes cl [.tup [a, b, c]] M R Z)⟩
    show R (pr (byN (byN (byN (1, 1) (red a)) (red b)) (red c))) M
    rw [byN_one (Red.red hf)]
    exact q
  | 4, _, h4, _, _ => absurd rfl h4
  | 5, _, _, h, hd => by
    cases hd
    exact ⟨5, a, b, c, rfl, by decide, (⟨a, b, rfl, val2 ha hb, ha.frs, hb.frs, orBad_none h q⟩ : cApart cl [a, b] M R Z)⟩
  | 6, _, _, h, hd => by
    cases hd
    exact ⟨6, a, b, c, rfl, by decide, (⟨a, b, rfl, val2 ha hb, ha.frs, hb.frs, orBad_none h q⟩ : cLess cl [a, b] M R Z)⟩
end
end K1

set_option Elab.async false
set_option linter.all false
set_option maxRecDepth 100000
set_option maxHeartbeats 1000000
set_option exponentiation.threshold 100000
/-! K26: _law_wrong. -/
namespace K1
open PySem PySem.Spec PyProof.Rows L2 HM TX XN L2H LM L2N LamX
theorem S1.mono {X : Cx} {st : Stmt} {G : List (Option Dt)} {M : Mst} {T : Po} {Q : List (Option Dt) → Mst → Prop} (h : S1 X st G M { T with nx := Q }) (hq : ∀ G' M', Q G' M' → T.nx G' M') : S1 X st G M T :=
  fun B σ H D hD hE hN => h B σ H D ⟨fun G' M' σ' H' q hN' => hD.nx G' M' σ' H' (hq G' M' q) hN', hD.rt, hD.bk, hD.ct⟩ hE hN
def cWrong (PT : Addr) : Ct := fun ds M R _ => ∃ (p : Addr) (b : Bx) (M0 : Mst), ds = [.raw (.ref p)] ∧ M = (p, .l b.cells) :: M0 ∧ Bd 990000 b ∧ (PT, Mu.t (lamQ "_law_wrong")) ∈ M0 ∧ plM M0 = true ∧
  R (.bl true) ((p, .l (wrongM b).cells) :: M0)
def badL (n : Nat) (a b c : Dt) : List Dt := (usedL n a b c).filter fun d => !isFr d
theorem bad_nil {l : List Dt} (h : (l.filter fun d => !isFr d).isEmpty = true) : badF l = none := by
  rw [badF_none]
  intro d hd
  have := List.filter_eq_nil_iff.mp (List.isEmpty_iff.mp h) d hd
  simpa using this
theorem bad_head {l : List Dt} (h : (l.filter fun d => !isFr d).isEmpty = false) : ∃ d0 r, (l.filter fun d => !isFr d) = d0 :: r ∧ badF l = some d0 ∧ d0 ∈ l := by
  cases e : l.filter fun d => !isFr d with
  | nil => rw [e] at h; cases h
  | cons d0 r =>
    refine ⟨d0, r, rfl, ?_, ?_⟩
    · unfold badF
      rw [← List.head?_filter, e]
      rfl
    · exact (List.mem_filter.mp (e ▸ List.mem_cons_self : d0 ∈ l.filter fun d => !isFr d)).1
theorem mem_used {n : Nat} {a b c : Dt} : a ∈ usedL n a b c := by
  unfold usedL
  split
  · simp
  · split <;> simp
theorem isNum_cnt {d : Dt} (h : isCnt d = true) : ∃ i : Int, d = .int i ∧ 0 ≤ i := by
  cases d with
  | int i => exact ⟨i, rfl, of_decide_eq_true h⟩
  | _ => cases h
theorem val_int {i : Int} (h : i.toNat ≤ 2 ^ 200) : Val (.int i) := ⟨rfl, fun _ => ⟨h, (show (1 : Nat) ≤ 2 ^ 200 by decide)⟩, ⟨rfl, rfl⟩, rfl⟩
def fx (d : Dt) : Dt := if isFr d = true then d else .int 0
theorem fx_fit {d : Dt} (h : Val d) : Fit (fx d) := by
  unfold fx
  split
  · rename_i hf
    exact ⟨hf, h.frs hf⟩
  · exact ⟨rfl, by decide, by decide⟩
theorem fx_eq {d : Dt} (h : isFr d = true) : fx d = d := if_pos h
theorem Val.kn {d : Dt} (h : Val d) : d.kn = true := okd.kn h.ok
theorem out_dp {d : Dt} {i : Nat} (h : Val d) : dp 12 (outD i [d]) = true := dp_t (fun x hx => by
  rcases List.mem_cons.mp hx with rfl | hx
  · rfl
  · rw [List.mem_singleton.mp hx]
    exact h.dp.2) (by simp)
theorem due_fx {a b c : Dt} {n : Nat} (hn : n < 7) (h4 : n ≠ 4) (h : badF (usedL n a b c) = none) : ∃ d, (dueL a b c)[n]? = some d ∧ (dueL a (fx b) (fx c))[n]? = some d ∧ dp 12 d = true := by
  have hf := badF_none.mp h
  match n, hn, h4, hf with
  | 0, _, _, _ => exact ⟨_, rfl, rfl, rfl⟩
  | 1, _, _, _ => exact ⟨_, rfl, rfl, rfl⟩
  | 2, _, _, hf =>
    rw [fx_eq (hf b (by simp [usedL])), fx_eq (hf c (by simp [usedL]))]
    exact ⟨_, rfl, rfl, rfl⟩
  | 3, _, _, hf =>
    rw [fx_eq (hf b (by simp [usedL])), fx_eq (hf c (by simp [usedL]))]
    exact ⟨_, rfl, rfl, rfl⟩
  | 4, _, h4, _ => exact absurd rfl h4
  | 5, _, _, hf =>
    rw [fx_eq (hf b (by simp [usedL]))]
    exact ⟨_, rfl, rfl, rfl⟩
  | 6, _, _, hf =>
    rw [fx_eq (hf b (by simp [usedL]))]
    exact ⟨_, rfl, rfl, rfl⟩
section
variable {P : Program} {w : World} {K : PySem.W.Frag} {mg : Str → Option Value} {base : Heap} {cl : Nat → Addr}
theorem b_Lwrong {c PT : Addr} (TB : TabB base mg c PT) (B : Bl mg) (C : Cls P K mg cl) (Pr : Prg P w K mg base cl) (D : Df P w K mg base "_law_draw" 1 cDraw) (Do : Df P w K mg base "_law_odd" 3 cOdd) (Dfr : Df P w K mg base "_law_fraction" 2 cFrac) (Dn : Df P w K mg base "_law_number" 1 cNum) (Di : Df P w K mg base "_law_is_fraction" 2 cIsFr)
    (Dx : Df P w K mg base "_law_fixed" 2 cFixed) (Dw : Df P w K mg base "_law_word" 1 cWord) (Dt1 : Df P w K mg base "_law_total" 3 cTotal) (Dy : Df P w K mg base "_law_by" 2 (cPair2 4000 fun p q => pr (byN p q))) (Dc : Df P w K mg base "_law_call" 6 (cCall cl))
    (Dg : Df P w K mg base "_law_gap" 2 (cPair2 4000 fun p q => pr (gapN p q))) (Ds : Df P w K mg base "_law_less" 1 (cPair2 4000 fun p q => .bl (decide (p.1 * q.2 < q.1 * p.2)))) (Dp : Df P w K mg base "_law_raised" 1 cLraised) (Dm : Df P w K mg base "_law_low" 1 cLow)
    (Df1 : Df P w K mg base "_law_refused" 13 (cRefused cl P w K mg base)) (Dl : Df P w K mg base "_law_like" 12 (cLike 12)) : BodyOkC P w K mg base N_Lwrong ["box"] "_law_wrong" s_Lwrong 13 c (cWrong PT) := by
  intro f A outer s H E ds M R Z hr hl ⟨p, b, M0, e, eM, hb, hT, hpl, hR⟩
  subst e eM
  have hu : (Xd P w K mg base N_Lwrong "_law_wrong" s_Lwrong f (.ref c) A outer s H E).A.units < cLine := by have := hr.un; omega
  have v0 := vel_ok hb 0
  have v1 := vel_ok hb 1
  have v2 := vel_ok hb 2
  refine ss_cons (s1_asg (d := .lst [vel b 0, vel b 1, vel b 2]) (M1 := (p, .l (vst b 3).cells) :: M0) (ex_lcI (out := [vel b 0, vel b 1, vel b 2]) (M' := (p, .l (vst b 3).cells) :: M0) (M1 := (p, .l b.cells) :: M0) (ds := rng 0 3) 4 rfl sc_Lwrong.nd (ix_range (n := 3) B.range (ax_cons ex_int ax_nil) (by decide)) (by exact (show BlkOk N_Lwrong (defScope s_Lwrong) _ [("k", 4)] from ⟨rfl, by decide +kernel, by decide +kernel, by decide +kernel, by decide +kernel⟩)) (fun j Mi acc => j ≤ 3 ∧ Mi = (p, .l (vst b j).cells) :: M0 ∧ acc = (List.range j).map (vel b)) ⟨by omega, rfl, rfl⟩ (fun j Mi acc ⟨h0, h1, h2⟩ => ⟨by rw [h1]; rfl, by rw [h2]; simp; omega⟩) (fun j d Mi acc hj ⟨h0, h1, h2⟩ => ?_) (fun Mn acc ⟨h0, h1, h2⟩ => ⟨h1, h2⟩) rfl)
    (gx_lst rfl (gxs_cons (gx_nm 1 sc_Lwrong.nd) (gxs_cons (gx_nm 2 sc_Lwrong.nd) (gxs_cons (gx_nm 3 sc_Lwrong.nd) gxs_nil)))) ?_)
  · subst h1 h2
    have hj3 : j < 3 := by
      have := (List.getElem?_eq_some_iff.mp hj).1
      rw [rng_len] at this
      exact this
    have gj := (vst_ok hb j).mono (k := 999000 - 10) (by omega)
    have gj2 := (draw_ok (size := 2) gj (by decide)).1
    refine ⟨vel b j, (p, .l (vst b (j + 1)).cells) :: M0, fun s H C cl fp => ?_, hj3, rfl, by rw [List.range_succ, List.map_append]; rfl⟩
    refine ex_if (tx_cp (ex_draw D hr gj.n10 (ex_nm 0) ex_int) ex_int c_eqI) (fun h => ?_) fun h => ?_
    · have e : valM (vst b j) = oddM (draw (vst b j) 2).2 := if_pos (of_decide_eq_true h)
      show EX _ _ _ _ (valM (vst b j)).1 ((p, .l (valM (vst b j)).2.cells) :: M0)
      rw [e]
      exact ex_call Do hr (ax_cons (ex_nm 0) ax_nil) ⟨p, _, M0, rfl, rfl, gj2.mono (by omega), rfl, rfl⟩
    · have e : valM (vst b j) = fracM (draw (vst b j) 2).2 := if_neg (of_decide_eq_false h)
      show EX _ _ _ _ (valM (vst b j)).1 ((p, .l (valM (vst b j)).2.cells) :: M0)
      rw [e]
      exact ex_call Dfr hr (ax_cons (ex_nm 0) ax_nil) ⟨p, _, M0, rfl, rfl, gj2.mono (by omega), rfl, rfl⟩
  have g3 := (vst_ok hb 3).mono (k := 999000) (by omega)
  obtain ⟨g4, w0, w1⟩ := draw_ok (size := 8) g3 (by decide)
  obtain ⟨n, hn⟩ : ∃ n : Nat, n = (draw (vst b 3) 8).1.toNat := ⟨_, rfl⟩
  have iN : (draw (vst b 3) 8).1 = (n : Int) := by omega
  have hn8 : n < 8 := by omega
  refine ss_cons (s1_set 5 sc_Lwrong.nd (EE.is (ex_draw D hr g3.n10 (ex_nm 0) ex_int) (congrArg Dt.int iN)) ?_)
  generalize vel b 0 = a at v0
  generalize vel b 1 = bq at v1
  generalize vel b 2 = z at v2
  show SS _ _ _ ((p, .l (wrongM b).cells) :: M0) _
  have hplM := plM_box (p := p) (b := wrongM b) hpl
  generalize wrongM b = b' at hR hplM
  refine ss_cons (S1.mono (Q := fun G' M' => M' = (p, .l b'.cells) :: M0 ∧ ∃ bq, Val bq ∧ Cap n bq ∧ G' = [some (.raw (.ref p)), some a, some bq, some z, none, some (.int (n : Int)), none, none, none, none, none, none, none]) ?_ ?_)
  · by_cases hnum : isNum bq = true
    · obtain ⟨i, rfl⟩ := isNum_int hnum
      refine s1_if (k := decide (n = 7) && (true && decide (40 < i))) (tx_w (wx_and (tx_cp (d2 := .int ((7 : Nat) : Int)) (ex_nm 5) ex_int c_eqN) fun _ => wx_and (tx_val (ex_call Dn hr (ax_cons (ex_nm 2) ax_nil) ⟨_, rfl, rfl, rfl, rfl⟩)) fun _ => wx_and1 (tx_cp (ex_nm 2) ex_int c_gt))) (fun h => ?_) fun h => ss_nil ?_
      · refine ss_one (s1_set 2 sc_Lwrong.nd (ex_bin (ex_intI B.int (ex_nm 2)) ex_int (o_mod (by decide))) ⟨rfl, .int (i % 41), val_int ?_, fun _ _ => ?_, rfl⟩)
        · have : (i % 41).toNat ≤ 41 := by omega
          exact Nat.le_trans this (by decide)
        · show (i % 41).toNat ≤ 40
          omega
      · refine ⟨rfl, .int i, v1, fun h7 _ => ?_, rfl⟩
        have : ¬ (n = 7 ∧ 40 < i) := by simpa using h
        show i.toNat ≤ 40
        omega
    · have hnum : isNum bq = false := by simpa using hnum
      refine s1_if (k := decide (n = 7) && (false && false)) (tx_w (wx_and (tx_cp (d2 := .int ((7 : Nat) : Int)) (ex_nm 5) ex_int c_eqN) fun _ => wx_and (tx_val (ex_call Dn hr (ax_cons (ex_nm 2) ax_nil) ⟨_, rfl, v1.kn, by rw [hnum], rfl⟩)) fun z => absurd z (by simp))) (fun h => absurd h (by simp)) fun h => ss_nil ?_
      refine ⟨rfl, bq, v1, fun _ hc => ?_, rfl⟩
      obtain ⟨i, rfl, _⟩ := isNum_cnt hc
      cases hnum
  · clear v1 bq
    rintro G' M' ⟨rfl, bq, v1, hcap, rfl⟩
    refine ss_cons (s1_set 6 sc_Lwrong.nd (d := .lst (usedL n a bq z)) (ex_if (k := decide (n < 2) || decide (n = 7)) (tx_w (wx_or (tx_cp (d2 := .int ((2 : Nat) : Int)) (ex_nm 5) ex_int c_decLt) fun _ => wx_or1 (tx_cp (d2 := .int ((7 : Nat) : Int)) (ex_nm 5) ex_int c_eqN))) (fun h => ?_) fun h => ex_if (tx_cp (d2 := .int ((4 : Nat) : Int)) (ex_nm 5) ex_int c_decLt) (fun h2 => ?_) fun h2 => ?_) ?_)
    · have h : n < 2 ∨ n = 7 := by simpa using h
      unfold usedL
      rw [if_pos h]
      exact ex_ls (ax_cons (ex_nm 1) ax_nil)
    · have h : ¬ (n < 2 ∨ n = 7) := by simpa using h
      unfold usedL
      rw [if_neg h, if_pos (of_decide_eq_true h2)]
      exact ex_ls (ax_cons (ex_nm 1) (ax_cons (ex_nm 2) (ax_cons (ex_nm 3) ax_nil)))
    · have h : ¬ (n < 2 ∨ n = 7) := by simpa using h
      unfold usedL
      rw [if_neg h, if_neg (of_decide_eq_false h2)]
      exact ex_ls (ax_cons (ex_nm 1) (ax_cons (ex_nm 2) ax_nil))
    have uv : ∀ d ∈ usedL n a bq z, Val d := fun d hd => by
      have : d ∈ [a, bq, z] := by
        unfold usedL at hd
        split at hd
        · exact List.mem_cons.mpr (.inl (List.mem_singleton.mp hd))
        · split at hd
          · exact hd
          · simp at hd ⊢
            rcases hd with h | h
            · exact .inl h
            · exact .inr (.inl h)
      simp at this
      rcases this with rfl | rfl | rfl
      · exact v0
      · exact v1
      · exact v2
    have ul : (usedL n a bq z).length ≤ 3 := by
      unfold usedL
      split
      · simp
      · split <;> simp
    have em : ((usedL n a bq z).filter fun d => !isFr d).map (fun d => d) = badL n a bq z := List.map_id' _
    refine ss_cons (s1_lcFil 8 7 (fun d => d) (fun d => !isFr d) rfl sc_Lwrong.nd (ix_lst (ex_nm 6)) (by exact (show BlkOk N_Lwrong (defScope s_Lwrong) _ [("item", 8)] from ⟨rfl, by decide +kernel, by decide +kernel, by decide +kernel, by decide +kernel⟩)) (by omega) (fun d hd s H C cl fp => tx_not (tx_val (ex_call Di hr (ax_cons (ex_nm 8) ax_nil) ⟨d, rfl, (uv d hd).kn, okd.tup (uv d hd).ok, rfl, rfl⟩))) (fun d hd s H C cl fp => ex_nm 8) ?_)
    rw [em]
    have ubad : ∀ d ∈ badL n a bq z, Val d := fun d hd => uv d (List.mem_filter.mp hd).1
    refine ss_cons (S1.mono (Q := fun G' M' => M' = (p, .l b'.cells) :: M0 ∧ ∃ bad, G' = [some (.raw (.ref p)), some a, some bq, some z, none, some (.int (n : Int)), some (.lst (usedL n a bq z)), some (.lst bad), none, none, none, none, none] ∧
      (bad = [] → badF (usedL n a bq z) = none ∧ (n = 4 → (red bq).1 ≠ 0)) ∧ ∀ d0 r, bad = d0 :: r → Val d0 ∧ ∀ M R Z, Z (cl 1) (cks 1) (cfs 1 [d0]) M → cCall cl [.int (n : Int), a, bq, z] M R Z) ?_ ?_)
    · by_cases emp : (badL n a bq z).isEmpty = true
      · have hb0 := bad_nil emp
        have eb : badL n a bq z = [] := List.isEmpty_iff.mp emp
        by_cases h4 : n = 4
        · subst h4
          have hfb : isFr bq = true := badF_none.mp hb0 bq (by simp [usedL])
          refine s1_if (k := true && (true && decide ((red bq).1 = 0))) (tx_w (wx_and ((tx_cp (ex_nm 7) (ex_ls ax_nil) (c_eqNil hu)).is emp) fun _ => wx_and ((tx_cp (d2 := .int ((4 : Nat) : Int)) (ex_nm 5) ex_int c_eqN).is rfl) fun _ => wx_and1 (tx_cp (d2 := .int ((0 : Nat) : Int)) (ex_p0 (ex_call Dx hr (ax_cons (ex_nm 2) ax_nil) ⟨bq, rfl, hfb, gs hfb v1.frs, rfl, rfl⟩)) ex_int c_eqN))) (fun h => ?_) fun h => ss_nil ?_
          · have h : (red bq).1 = 0 := by simpa using h
            refine ss_one (s1_set 7 sc_Lwrong.nd (ex_ls (ax_cons (ex_nm 2) ax_nil)) ⟨rfl, [bq], rfl, (fun z => by cases z), fun d0 r e => ?_⟩)
            cases e
            exact ⟨v1, fun M R Z q => call_zero v0 v1 v2 hb0 h q⟩
          · have h : ¬ (red bq).1 = 0 := by simpa using h
            exact ⟨rfl, _, rfl, (fun _ => ⟨hb0, fun _ => h⟩), fun d0 r e => by rw [eb] at e; cases e⟩
        · refine s1_if (k := true && (decide (n = 4) && false)) (tx_w (wx_and ((tx_cp (ex_nm 7) (ex_ls ax_nil) (c_eqNil hu)).is emp) fun _ => wx_and (tx_cp (d2 := .int ((4 : Nat) : Int)) (ex_nm 5) ex_int c_eqN) fun q => absurd (of_decide_eq_true q) h4)) (fun h => absurd h (by simp)) fun h => ss_nil ?_
          exact ⟨rfl, _, rfl, (fun _ => ⟨hb0, fun e => absurd e h4⟩), fun d0 r e => by rw [eb] at e; cases e⟩
      · have emp : (badL n a bq z).isEmpty = false := by simpa using emp
        obtain ⟨d1, r1, eb, hb0, hm⟩ := bad_head emp
        refine s1_if (k := false && false) (tx_w (wx_and ((tx_cp (ex_nm 7) (ex_ls ax_nil) (c_eqNil hu)).is emp) fun z => absurd z (by simp))) (fun h => absurd h (by simp)) fun h => ss_nil ?_
        have eb : badL n a bq z = d1 :: r1 := eb
        refine ⟨rfl, _, rfl, (fun e => by rw [eb] at e; cases e), fun d0 r e => ?_⟩
        rw [eb] at e
        cases e
        exact ⟨uv _ hm, fun M R Z q => call_bad hn8 v0 v1 v2 hcap hb0 q⟩
    · rintro G' M' ⟨rfl, bad, rfl, hnone, hsome⟩
      refine ss_cons (s1_if (tx_cp (ex_nm 7) (ex_ls ax_nil) (c_neNil hu)) (fun h => ?_) fun h => ss_nil ?_)
      · match bad, h, hsome with
        | d0 :: r, _, hsome =>
          obtain ⟨vd, hc⟩ := hsome d0 r rfl
          exact ss_one (s1_ret (ex_lamcall (fr := ["which_one", "a", "b", "c"]) (l := [.int (n : Int), a, bq, z]) (Rc := fun _ _ => False) (Zc := ZOne cl 1 [d0] _) (k := 6) Df1 hr (by decide) TB rfl (List.mem_cons_of_mem _ hT) (ls_by (by decide +kernel)) rfl (fun _ _ _ _ _ => rfl) (show ∀ y ∈ [("which_one" : Str), "a", "b", "c"], (defScope s_Lwrong).names.lookup y = some .cell by decide +kernel) (by decide +kernel) (fun _ _ => rfl) [5, 1, 2, 3] rfl rfl (by simp [plDs, plD, v0.pl, v1.pl, v2.pl]) hplM (ex_tp (ax_cons ex_str (ax_cons (ex_at (ex_nm 7) ex_int (i_lst (n := 0) rfl)) ax_nil)))
            (fun f c' cl' A outer s H E hr' => ez_call Dc hr' (ax_cons (ex_nm 0) (ax_cons (ex_nm 1) (ax_cons (ex_nm 2) (ax_cons (ex_nm 3) ax_nil)))) (hc _ _ _ ⟨rfl, rfl, rfl, rfl⟩)) (fun f L vs F => ⟨f, L, _, vs, 1, [d0], rfl, .inl rfl, rfl, F, out_dp vd, rfl, rfl⟩)) (.of hR))
      · have hbn : bad = [] := by
          cases bad with
          | nil => rfl
          | cons d0 r => cases h
        obtain ⟨hb0, h40⟩ := hnone hbn
        have hfa : isFr a = true := badF_none.mp hb0 a mem_used
        have fa : Fit a := ⟨hfa, v0.frs hfa⟩
        refine ss_cons (s1_if (k := decide (n = 7) && !isCnt bq) (tx_w (wx_and (tx_cp (d2 := .int ((7 : Nat) : Int)) (ex_nm 5) ex_int c_eqN) fun _ => wx_and1 (tx_not (tx_w (k := isCnt bq) ?_)))) (fun h => ?_) fun h => ss_nil ?_)
        · by_cases hnum : isNum bq = true
          · obtain ⟨i, rfl⟩ := isNum_int hnum
            exact ET.is (wx_and (k := true) (tx_val (ex_call Dn hr (ax_cons (ex_nm 2) ax_nil) ⟨_, rfl, rfl, rfl, rfl⟩)) fun _ => wx_and1 (tx_cp (ex_nm 2) ex_int c_ge)) (by simp [isCnt])
          · have hnum : isNum bq = false := by simpa using hnum
            have e : isCnt bq = false := by
              cases hc : isCnt bq with
              | false => rfl
              | true =>
                obtain ⟨i, rfl, _⟩ := isNum_cnt hc
                cases hnum
            rw [e]
            exact wx_and (k := false) (k2 := false) (tx_val (ex_call Dn hr (ax_cons (ex_nm 2) ax_nil) ⟨_, rfl, v1.kn, by rw [hnum], rfl⟩)) fun z => absurd z (by simp)
        · have h : n = 7 ∧ isCnt bq = false := by simpa using h
          exact ss_one (s1_ret (ex_lamcall (fr := ["a", "b", "c"]) (l := [a, bq, z]) (Rc := fun _ _ => False) (Zc := ZOne cl 2 [bq] _) (k := 6) Df1 hr (by decide) TB rfl (List.mem_cons_of_mem _ hT) (ls_by (by decide +kernel)) rfl (fun _ _ _ _ _ => rfl) (show ∀ y ∈ [("a" : Str), "b", "c"], (defScope s_Lwrong).names.lookup y = some .cell by decide +kernel) (by decide +kernel) (fun _ _ => rfl) [1, 2, 3] rfl rfl (by simp [plDs, plD, v0.pl, v1.pl, v2.pl]) hplM (ex_tp (ax_cons ex_str (ax_cons (ex_nm 2) ax_nil)))
            (fun f c' cl' A outer s H E hr' => ez_call Dc hr' (ax_cons ex_int (ax_cons (ex_nm 0) (ax_cons (ex_nm 1) (ax_cons (ex_nm 2) ax_nil)))) (call_num v0 v1 v2 hfa h.2 ⟨rfl, rfl, rfl, rfl⟩)) (fun f L vs F => ⟨f, L, _, vs, 2, [bq], rfl, .inr (.inl rfl), rfl, F, out_dp v1, rfl, rfl⟩)) (.of hR))
        · have h7 : n = 7 → isCnt bq = true := fun e => by
            have : ¬ (n = 7 ∧ isCnt bq = false) := by simpa using h
            cases hc : isCnt bq with
            | true => rfl
            | false => exact absurd ⟨e, hc⟩ this
          have fb := fx_fit v1
          have fz := fx_fit v2
          have sa := fit_sz fa
          have sb := fit_sz fb
          have sz := fit_sz fz
          have mk : ∀ {x y : Nat × Nat} {W : (Nat × Nat) → (Nat × Nat) → Dt} (M), 0 < x.2 ∧ Sz 400 x → 0 < y.2 ∧ Sz 200 y → cPair2 4000 W [pr x, pr y] M (fun d' M' => d' = W x y ∧ M' = M) E00 := fun M hx hy => ⟨_, _, rfl, hx.1, hy.1, hx.2.mono (by decide), hy.2.mono (by decide), rfl, rfl⟩
          refine ss_cons (s1_par3 9 10 11 rfl sc_Lwrong.nd (ax_cons (ex_call Dx hr (ax_cons (ex_nm 1) ax_nil) ⟨a, rfl, fa.1, gs fa.1 fa.frs, rfl, rfl⟩) (ax_cons (ex_call Dx hr (ax_cons (d := fx bq) (ex_if (tx_val (ex_call Di hr (ax_cons (ex_nm 2) ax_nil) ⟨bq, rfl, v1.kn, okd.tup v1.ok, rfl, rfl⟩)) (fun q => by rw [fx_eq q]; exact ex_nm 2) fun q => ?_) ax_nil) ⟨fx bq, rfl, fb.1, gs fb.1 fb.frs, rfl, rfl⟩) (ax_cons (ex_call Dx hr (ax_cons (d := fx z) (ex_if (tx_val (ex_call Di hr (ax_cons (ex_nm 3) ax_nil) ⟨z, rfl, v2.kn, okd.tup v2.ok, rfl, rfl⟩)) (fun q => by rw [fx_eq q]; exact ex_nm 3) fun q => ?_) ax_nil) ⟨fx z, rfl, fz.1, gs fz.1 fz.frs, rfl, rfl⟩) ax_nil))) ?_)
          · have e : fx bq = .int 0 := if_neg (by rw [q]; simp)
            rw [e]
            exact ex_int
          · have e : fx z = .int 0 := if_neg (by rw [q]; simp)
            rw [e]
            exact ex_int
          refine ss_cons (s1_if (tx_cp (d2 := .int ((4 : Nat) : Int)) (ex_nm 5) ex_int c_eqN) (fun h4 => ?_) fun h4 => ss_nil ?_)
          · have h4 : n = 4 := of_decide_eq_true h4
            have hz := h40 h4
            subst h4
            have hfb : isFr bq = true := badF_none.mp hb0 bq (by simp [usedL])
            have fq : Fit bq := ⟨hfb, v1.frs hfb⟩
            have sq := fit_sz fq
            have m0 : 0 < (red a).2 * (red bq).1 := Nat.mul_pos sa.1 (Nat.pos_of_ne_zero hz)
            have m2 : (red a).2 * (red bq).1 ≤ 2 ^ 400 := mulP sa.2.2 sq.2.1
            rw [fx_eq hfb]
            exact ss_one (s1_ret (ex_call Dl hr (ax_cons (ex_call Pr.quotient hr (ax_cons (ex_nm 1) (ax_cons (ex_nm 2) ax_nil)) (quot_ok fa fq hz ⟨rfl, rfl⟩)) (ax_cons (ex_low Dm hr (ex_bin (ex_p0 (ex_nm 9)) (ex_p1 (ex_nm 10)) (o_mulN sa.2.1 sq.2.2 (by decide))) (ex_bin (ex_p1 (ex_nm 9)) (ex_p0 (ex_nm 10)) (o_mulN sa.2.2 sq.2.1 (by decide))) (gpos m0) (gcd_le_of m0 m2 (by decide))) ax_nil)) ⟨_, rfl, rfl, rfl, rfl⟩) (.of hR))
          · refine ss_cons (s1_if (tx_cp (d2 := .int ((7 : Nat) : Int)) (ex_nm 5) ex_int c_eqN) (fun hh => ?_) fun hh => ss_nil ?_)
            · have e7 : n = 7 := of_decide_eq_true hh
              have hc := h7 e7
              obtain ⟨i, rfl, hi⟩ := isNum_cnt hc
              obtain ⟨m, rfl⟩ : ∃ m : Nat, i = (m : Int) := ⟨i.toNat, by omega⟩
              have hm : m ≤ 40 := by
                have : (m : Int).toNat ≤ 40 := hcap e7 hc
                omega
              exact ss_one (s1_ret (ex_call Dl hr (ax_cons (ex_call Pr.raised hr (ax_cons (ex_nm 1) (ax_cons (ex_nm 2) ax_nil)) (raised_ok fa hm ⟨rfl, rfl⟩)) (ax_cons (ex_call Dp hr (ax_cons (ex_nm 9) (ax_cons (ex_nm 2) ax_nil)) ⟨red a, m, rfl, sa.2, hm, rfl, rfl⟩) ax_nil)) ⟨_, rfl, rfl, rfl, rfl⟩) (.of hR))
            · have e7 : ¬ n = 7 := of_decide_eq_false hh
              have e4 : ¬ n = 4 := of_decide_eq_false h4
              obtain ⟨d, ed1, ed2, edp⟩ := due_fx (by omega) e4 hb0
              have sa4 : 0 < (red a).2 ∧ Sz 400 (red a) := ⟨sa.1, sa.2.mono (by decide)⟩
              have sb4 : 0 < (red (fx bq)).2 ∧ Sz 400 (red (fx bq)) := ⟨sb.1, sb.2.mono (by decide)⟩
              have sz4 : 0 < (red (fx z)).2 ∧ Sz 400 (red (fx z)) := ⟨sz.1, sz.2.mono (by decide)⟩
              have sab : 0 < (byN (red a) (red (fx bq))).2 ∧ Sz 400 (byN (red a) (red (fx bq))) := ⟨lowN_pos (Nat.mul_pos sa.1 sb.1), byN_sz sa.2 sb.2⟩
              refine ss_cons (s1_set 12 sc_Lwrong.nd (d := d) (ex_at (ex_ls (ax_cons (ex_nm 9) (ax_cons (ex_call Dw hr (ax_cons (ex_nm 9) ax_nil) ⟨_, rfl, (sz_bits sa.2).2.1, (sz_bits sa.2).2.2, rfl, rfl⟩) (ax_cons (ex_call Dt1 hr (ax_cons (ex_ls (ax_cons (ex_nm 9) (ax_cons (ex_nm 10) (ax_cons (ex_nm 11) ax_nil)))) ax_nil) ⟨[red a, red (fx bq), red (fx z)], rfl, by simp, ?_, rfl, rfl⟩)
                (ax_cons (ex_call Dy hr (ax_cons (ex_call Dy hr (ax_cons (ex_nm 9) (ax_cons (ex_nm 10) ax_nil)) (mk _ sa4 sb)) (ax_cons (ex_nm 11) ax_nil)) (mk _ sab sz)) (ax_cons ex_non (ax_cons (ex_call Dg hr (ax_cons (ex_nm 9) (ax_cons (ex_nm 10) ax_nil)) (mk _ sa4 sb)) (ax_cons (ex_call Ds hr (ax_cons (ex_nm 9) (ax_cons (ex_nm 10) ax_nil)) (mk _ sa4 sb)) ax_nil)))))))) (ex_nm 5) (i_lst ed2)) ?_)
              · intro q hq
                simp at hq
                rcases hq with rfl | rfl | rfl
                · exact sa
                · exact sb
                · exact sz
              exact ss_one (s1_ret (ex_call Dl hr (ax_cons (ex_call Dc hr (ax_cons (ex_nm 5) (ax_cons (ex_nm 1) (ax_cons (ex_nm 2) (ax_cons (ex_nm 3) ax_nil)))) (call_ok (by omega) e4 v0 v1 v2 hb0 ed1 ⟨rfl, rfl⟩)) (ax_cons (ex_nm 12) ax_nil)) ⟨_, rfl, edp, rfl, rfl⟩) (.of hR))
end
end K1

set_option Elab.async false
set_option linter.all false
set_option maxRecDepth 100000
set_option maxHeartbeats 1000000
set_option exponentiation.threshold 100000
/-! K27: _law_reads. -/
namespace K1
open PySem PySem.Spec PyProof.Rows L2 HM TX XN L2H LM L2N LamX
theorem c_notN {X : Cx} {d : Dt} (hk : d.kn = true) : CmpOk X .IsNot d .non (.bl (!(match d with | .non => true | _ => false))) := ⟨_, op_notN, OpD.now fun F H x y Q _ r1 r2 q => ⟨r2, q _ (by
  cases d with
  | non => rw [show x = .non from r1]; rfl
  | bl b => rw [show x = .bl b from r1]; rfl
  | int i => rw [show x = .int i from r1]; rfl
  | str z => rw [show x = .str z from r1]; rfl
  | raw w => cases hk
  | exc C ks l => cases hk
  | cau a dd C ks l => cases hk
  | fn f L l vs => cases hk
  | tup l => obtain ⟨a, vs, rfl, _⟩ := r1; rfl
  | lst l => obtain ⟨a, vs, rfl, _⟩ := r1; rfl
  | dic ks l => obtain ⟨a, vs, rfl, _⟩ := r1; rfl)⟩⟩
def nst (b : Bx) : Nat → Bx
  | 0 => b
  | k + 1 => (nearM (nst b k)).2
theorem nst_ok {k : Int} {b : Bx} (h : Bd k b) : ∀ n : Nat, Bd (k + 10 * n) (nst b n)
  | 0 => h.mono (by omega)
  | n + 1 => (nearM_ok (nst_ok h n)).1.mono (by omega)
def readsM (b : Bx) : Bx := (oddM (nst b 8)).2
theorem readsM_ok {k : Int} {b : Bx} (h : Bd k b) : Bd (k + 81) (readsM b) := (oddM_ok (nst_ok h 8)).1.mono (by omega)
def cReads (PT : Addr) : Ct := fun ds M R _ => ∃ (p : Addr) (b : Bx) (M0 : Mst), ds = [.raw (.ref p)] ∧ M = (p, .l b.cells) :: M0 ∧ Bd 990000 b ∧ (PT, Mu.t (lamQ "_law_reads")) ∈ M0 ∧ plM M0 = true ∧
  R (.bl true) ((p, .l (readsM b).cells) :: M0)
theorem read_none {cl : Nat → Addr} {z : Str} {M : Mst} {R : Dt → Mst → Prop} {Z : Er} (hz : z.length ≤ 100000) (h : frText z = none) (q : Z (cl 1) (cks 1) (cfs 1 [.str z]) M) : cReadF cl [.str z] M R Z :=
  ⟨.str z, rfl, rfl, fun z' e => by cases e; exact hz, by
    show (match frText z with | none => Z (cl 1) (cks 1) (cfs 1 [.str z]) M | some p => R (pr p) M)
    rw [h]
    exact q⟩
theorem read_some {cl : Nat → Addr} {z : Str} {x : Nat × Nat} {M : Mst} {R : Dt → Mst → Prop} {Z : Er} (hz : z.length ≤ 100000) (h : frText z = some x) (q : R (pr x) M) : cReadF cl [.str z] M R Z :=
  ⟨.str z, rfl, rfl, fun z' e => by cases e; exact hz, by
    show (match frText z with | none => Z (cl 1) (cks 1) (cfs 1 [.str z]) M | some p => R (pr p) M)
    rw [h]
    exact q⟩
theorem read_odd {cl : Nat → Addr} {d : Dt} {M : Mst} {R : Dt → Mst → Prop} {Z : Er} (hk : d.kn = true) (h : isS d = false) (q : Z (cl 1) (cks 1) (cfs 1 [d]) M) : cReadF cl [d] M R Z := by
  refine ⟨d, rfl, hk, (fun z e => by rw [e] at h; cases h), ?_⟩
  cases d with
  | str z => cases h
  | _ => exact q
section
variable {P : Program} {w : World} {K : PySem.W.Frag} {mg : Str → Option Value} {base : Heap} {cl : Nat → Addr}
theorem b_Lreads {c PT : Addr} (TB : TabB base mg c PT) (B : Bl mg) (Pr : Prg P w K mg base cl) (Pk : PrgK P w K mg base cl) (Do : Df P w K mg base "_law_odd" 3 cOdd) (Dn : Df P w K mg base "_law_near" 3 cNear) (Dr : Df P w K mg base "_law_read" 2 cLread)
    (Df1 : Df P w K mg base "_law_refused" 13 (cRefused cl P w K mg base)) (Dl : Df P w K mg base "_law_like" 12 (cLike 12)) : BodyOkC P w K mg base N_Lreads ["box"] "_law_reads" s_Lreads 13 c (cReads PT) := by
  intro f A outer s H E ds M R Z hr hl ⟨p, b, M0, e, eM, hb, hT, hpl, hR⟩
  subst e eM
  refine ss_cons (s1_for (fun i G' M' => M' = (p, .l (nst b i).cells) :: M0 ∧ ∃ o1 o2 o3, G' = [some (.raw (.ref p)), o1, o2, o3, none]) (ix_range (n := 8) B.range (ax_cons ex_int ax_nil) (by decide)) rfl ⟨rfl, none, none, none, rfl⟩ ?_ ?_ (fun i G' M' h => by rw [h.1]; rfl) PassesOwn.leaving)
  · rintro i d G' M' hd ⟨rfl, o1, o2, o3, rfl⟩
    have hi8 : i < 8 := by
      have := (List.getElem?_eq_some_iff.mp hd).1
      rw [rng_len] at this
      exact this
    have gi := (nst_ok hb i).mono (k := 999000) (by omega)
    obtain ⟨gi2, hlen⟩ := nearM_ok gi
    refine ⟨_, gx_nm 1 sc_Lreads.nd, ?_⟩
    refine ss_cons (s1_set 2 sc_Lreads.nd (ex_call Dn hr (ax_cons (ex_nm 0) ax_nil) ⟨p, _, M0, rfl, rfl, gi, rfl, rfl⟩) ?_)
    show SS _ _ _ ((p, .l (nst b (i + 1)).cells) :: M0) _
    have hplM := plM_box (p := p) (b := nst b (i + 1)) hpl
    generalize hb' : nst b (i + 1) = b' at hplM ⊢
    generalize (nearM (nst b i)).1 = z at hlen ⊢
    refine ss_cons (s1_set 3 sc_Lreads.nd (ex_call Dr hr (ax_cons (ex_nm 2) ax_nil) ⟨z, rfl, hlen, rfl, rfl⟩) ?_)
    cases hf : frText z with
    | none =>
      have dpz : dp 12 (outD 1 [.str z]) = true := rfl
      refine ss_cons (s1_if (k := true && !true) (tx_w (wx_and (k := true) (tx_cp (d1 := .non) (ex_nm 3) ex_non (c_isN rfl)) fun _ => wx_and1 (tx_not (tx_val (ex_lamcall (fr := ["tale"]) (l := [.str z]) (Rc := fun _ _ => False) (Zc := ZOne cl 1 [.str z] _) (k := 6) Df1 hr (by decide) TB rfl (List.mem_cons_of_mem _ hT) (ls_by (by decide +kernel)) rfl (fun _ _ _ _ _ => rfl) (show ∀ y ∈ [("tale" : Str)], (defScope s_Lreads).names.lookup y = some .cell by decide +kernel) (by decide +kernel) (fun _ _ => rfl) [2] rfl rfl rfl hplM
        (ex_tp (ax_cons ex_str (ax_cons (ex_nm 2) ax_nil))) (fun f c' cl' A outer s H E hr' => ez_call Pr.read hr' (ax_cons (ex_nm 0) ax_nil) (read_none hlen hf ⟨rfl, rfl, rfl, rfl⟩)) (fun f L vs F => ⟨f, L, _, vs, 1, [.str z], rfl, .inl rfl, rfl, F, dpz, rfl, rfl⟩)))))) (fun z => absurd z (by simp)) fun _ => ss_nil ?_)
      refine ss_one (s1_if (k := false && false) (tx_w (wx_and (k := false) (tx_cp (d1 := .non) (ex_nm 3) ex_non (c_notN rfl)) fun z => absurd z (by simp))) (fun z => absurd z (by simp)) fun _ => ss_nil ?_)
      exact ⟨rfl, _, _, _, rfl⟩
    | some x =>
      refine ss_cons (s1_if (k := false && false) (tx_w (wx_and (k := false) (tx_cp (d1 := pr x) (ex_nm 3) ex_non (c_isN rfl)) fun z => absurd z (by simp))) (fun z => absurd z (by simp)) fun _ => ss_nil ?_)
      refine ss_one (s1_if (k := true && !true) (tx_w (wx_and (k := true) (tx_cp (d1 := pr x) (ex_nm 3) ex_non (c_notN rfl)) fun _ => wx_and1 (tx_not (tx_val (ex_call Dl hr (ax_cons (ex_ls (ax_cons (ex_call Pr.read hr (ax_cons (ex_nm 2) ax_nil) (read_some hlen hf ⟨rfl, rfl⟩)) (ax_cons (ex_k1 Pk.read kb_read hr (ex_nm 2) len_readF (read_some hlen hf ⟨rfl, rfl⟩)) ax_nil))) (ax_cons (ex_ls (ax_cons (d := pr x) (ex_nm 3) (ax_cons (d := pr x) (ex_nm 3) ax_nil))) ax_nil)) ⟨_, rfl, rfl, rfl, rfl⟩))))) (fun z => absurd z (by simp)) fun _ => ss_nil ?_)
      exact ⟨rfl, _, _, _, rfl⟩
  · rintro G' M' ⟨rfl, o1, o2, o3, rfl⟩
    rw [rng_len]
    have g8 := (nst_ok hb 8).mono (k := 999000) (by omega)
    have v := odd_val _ (oddM_ok g8).2
    refine ss_cons (s1_set 4 sc_Lreads.nd (ex_call Do hr (ax_cons (ex_nm 0) ax_nil) ⟨p, _, M0, rfl, rfl, g8, rfl, rfl⟩) ?_)
    show SS _ _ _ ((p, .l (readsM b).cells) :: M0) _
    have hplM := plM_box (p := p) (b := readsM b) hpl
    generalize readsM b = b' at hR hplM
    show SS _ _ [_, _, _, _, some (oddM (nst b 8)).1] _ _
    generalize (oddM (nst b 8)).1 = d at v
    refine ss_one (s1_ret (EE.is (ex_or (k := isS d) (k2 := true) (ex_isi (isi_S v.kn) B.isi B.str (ex_nm 4)) fun h => ex_one (ex_lamcall (fr := ["item"]) (l := [d]) (Rc := fun _ _ => False) (Zc := ZOne cl 1 [d] _) (k := 6) Df1 hr (by decide) TB rfl (List.mem_cons_of_mem _ hT) (ls_by (by decide +kernel)) rfl (fun _ _ _ _ _ => rfl) (show ∀ y ∈ [("item" : Str)], (defScope s_Lreads).names.lookup y = some .cell by decide +kernel) (by decide +kernel) (fun _ _ => rfl) [4] rfl rfl (by simp [plDs, v.pl]) hplM
        (ex_tp (ax_cons ex_str (ax_cons (ex_nm 4) ax_nil))) (fun f c' cl' A outer s H E hr' => ez_call Pr.read hr' (ax_cons (ex_nm 0) ax_nil) (read_odd v.kn h ⟨rfl, rfl, rfl, rfl⟩)) (fun f L vs F => ⟨f, L, _, vs, 1, [d], rfl, .inl rfl, rfl, F, out_dp v, rfl, rfl⟩))) (congrArg Dt.bl (Bool.or_true _))) (.of hR))
end
end K1

set_option Elab.async false
set_option linter.all false
set_option maxRecDepth 100000
set_option maxHeartbeats 1000000
set_option exponentiation.threshold 100000
/-! K28: _law_digits_bound. -/
namespace K1
open PySem PySem.Spec PyProof.Rows L2 HM TX XN L2H LM L2N LamX
/-- the top with f digits -/
def topN (f : Nat) : Nat := 2 ^ (f - 1) + (if 1 < f then 1 else 0)
def botN (l : Nat) : Nat := 2 ^ (l - 1)
theorem topN_odd {f : Nat} (h : 1 ≤ f) : topN f % 2 = 1 := by
  unfold topN
  split
  · rename_i hf
    obtain ⟨k, rfl⟩ : ∃ k, f = k + 2 := ⟨f - 2, by omega⟩
    have : 2 ^ (k + 2 - 1) = 2 * 2 ^ k := by
      show 2 ^ (k + 1) = _
      rw [Nat.pow_succ, Nat.mul_comm]
    rw [this]
    omega
  · have : f = 1 := by omega
    subst this
    rfl
theorem cop_pow {a : Nat} (h : a % 2 = 1) : ∀ k, Nat.gcd a (2 ^ k) = 1
  | 0 => Nat.gcd_one_right a
  | k + 1 => by
    have c2 : Nat.Coprime a 2 := by
      have h1 : Nat.gcd a 2 ∣ 2 := Nat.gcd_dvd_right a 2
      have h2 : Nat.gcd a 2 ∣ a := Nat.gcd_dvd_left a 2
      have h3 := Nat.le_of_dvd (by decide) h1
      have h4 : Nat.gcd a 2 ≠ 2 := fun e => by
        rw [e] at h2
        omega
      have h5 : 0 < Nat.gcd a 2 := Nat.gcd_pos_of_pos_right a (by decide)
      show Nat.gcd a 2 = 1
      omega
    rw [Nat.pow_succ]
    exact Nat.Coprime.mul_right (cop_pow h k) c2
theorem low_fac {k a b : Nat} (hk : 0 < k) (hb : 0 < b) (h : Nat.gcd a b = 1) : Nat.gcd (k * a) (k * b) = k ∧ lowN (k * a) (k * b) = (a, b) := by
  have e : Nat.gcd (k * a) (k * b) = k := by rw [Nat.gcd_mul_left, h, Nat.mul_one]
  refine ⟨e, ?_⟩
  unfold lowN
  rw [e, Nat.mul_div_cancel_left _ hk, Nat.mul_div_cancel_left _ hk]
theorem bits_eq {x m : Nat} (h1 : 2 ^ m ≤ x) (h2 : x < 2 ^ (m + 1)) : Builtin.Int.intBits (x : Int) = m + 1 := by
  have a : Builtin.Int.intBits (x : Int) ≤ m + 1 := PySem.intBits_le_iff.mpr (by simpa using h2)
  have b : ¬ Builtin.Int.intBits (x : Int) ≤ m := fun z => by
    have := bits_lt z
    omega
  omega
theorem bits_top {f : Nat} (h : 1 ≤ f) : Builtin.Int.intBits (topN f : Int) = f := by
  obtain ⟨k, rfl⟩ : ∃ k, f = k + 1 := ⟨f - 1, by omega⟩
  refine bits_eq ?_ ?_
  · unfold topN
    show 2 ^ k ≤ 2 ^ (k + 1 - 1) + _
    rw [Nat.add_sub_cancel]
    omega
  · unfold topN
    rw [Nat.add_sub_cancel, Nat.pow_succ]
    split
    · have : 2 ≤ 2 ^ k := by
        calc 2 = 2 ^ 1 := rfl
          _ ≤ 2 ^ k := Nat.pow_le_pow_right (by decide) (by omega)
      omega
    · have := Nat.two_pow_pos k
      omega
theorem bits_bot {l : Nat} (h : 1 ≤ l) : Builtin.Int.intBits (botN l : Int) = l := by
  obtain ⟨k, rfl⟩ : ∃ k, l = k + 1 := ⟨l - 1, by omega⟩
  unfold botN
  rw [Nat.add_sub_cancel]
  have h := Nat.two_pow_pos k
  refine bits_eq (Nat.le_refl _) ?_
  rw [Nat.pow_succ]
  omega
theorem topN_le {f : Nat} (h : f ≤ 12002) : topN f ≤ 2 ^ 12002 := by
  unfold topN
  have : 2 ^ (f - 1) ≤ 2 ^ 12001 := Nat.pow_le_pow_right (by decide) (by omega)
  have e : (2 : Nat) ^ 12002 = 2 ^ 12001 + 2 ^ 12001 := by rw [Nat.pow_succ, Nat.mul_two]
  have p := Nat.two_pow_pos 12001
  split <;> omega
theorem botN_le {l : Nat} (h : l ≤ 12002) : botN l ≤ 2 ^ 12002 := Nat.pow_le_pow_right (by decide) (by omega)
theorem big_12002 : (2 : Nat) ^ 12002 < 10 ^ 4300 := by decide +kernel
def digP (b : Bx) : Bx := (draw (draw (draw b 4).2 5).2 30).2
def digM (b : Bx) : Bx := (draw (draw (digP b) 3).2 5).2
def cDigB (PT : Addr) : Ct := fun ds M R _ => ∃ (p : Addr) (b : Bx) (M0 : Mst), ds = [.raw (.ref p)] ∧ M = (p, .l b.cells) :: M0 ∧ Bd 990000 b ∧ (PT, Mu.t (lamQ "_law_digits_bound")) ∈ M0 ∧ plM M0 = true ∧
  R (.bl true) ((p, .l (digM b).cells) :: M0)
theorem word_two {x y : Nat} : wordN (x, y) = (toString (x : Int) : Str) ++ (if 1 < y then slS ++ (toString (y : Int) : Str) else Str.empty) ∨ y = 0 := by
  by_cases h0 : y = 0
  · exact .inr h0
  · left
    unfold wordN
    by_cases h : y = 1
    · rw [if_pos h, if_neg (by omega), str_0e]
    · rw [if_neg h, if_pos (by omega), str_e0, str_app]
section
variable {P : Program} {w : World} {K : PySem.W.Frag} {mg : Str → Option Value} {base : Heap} {cl : Nat → Addr}
theorem b_Ldigits_bound {c PT : Addr} (TB : TabB base mg c PT) (B : Bl mg) (hdig : base.NoDigits) (Pr : Prg P w K mg base cl) (D : Df P w K mg base "_law_draw" 1 cDraw)
    (Df1 : Df P w K mg base "_law_refused" 13 (cRefused cl P w K mg base)) (Dl : Df P w K mg base "_law_like" 12 (cLike 12)) : BodyOkC P w K mg base N_Ldigits_bound ["box"] "_law_digits_bound" s_Ldigits_bound 13 c (cDigB PT) := by
  intro f A outer s H E ds M R Z hr hl ⟨p, b, M0, e, eM, hb, hT, hpl, hR⟩
  subst e eM
  obtain ⟨b1, c0, c1⟩ := draw_ok (size := 4) hb (by decide)
  obtain ⟨b2, d0, d1⟩ := draw_ok (size := 5) b1 (by decide)
  obtain ⟨b3, e0, e1⟩ := draw_ok (size := 30) b2 (by decide)
  obtain ⟨b4, f0, f1⟩ := draw_ok (size := 3) b3 (by decide)
  obtain ⟨b5, g0, g1⟩ := draw_ok (size := 5) b4 (by decide)
  obtain ⟨k, hk⟩ : ∃ k : Nat, (draw b 4).1 = (k : Int) := ⟨(draw b 4).1.toNat, by omega⟩
  obtain ⟨wd, hw⟩ : ∃ m : Nat, 11998 + (draw (draw b 4).2 5).1 = (m : Int) := ⟨(11998 + (draw (draw b 4).2 5).1).toNat, by omega⟩
  obtain ⟨sm, hs⟩ : ∃ m : Nat, 1 + (draw (draw (draw b 4).2 5).2 30).1 = (m : Int) := ⟨(1 + (draw (draw (draw b 4).2 5).2 30).1).toNat, by omega⟩
  obtain ⟨w2, h2⟩ : ∃ m : Nat, 11999 + (draw (digP b) 3).1 = (m : Int) := ⟨(11999 + (draw (digP b) 3).1).toNat, by have : 0 ≤ (draw (digP b) 3).1 := f0; omega⟩
  obtain ⟨fa, h3⟩ : ∃ m : Nat, 1 + (draw (draw (digP b) 3).2 5).1 = (m : Int) := ⟨(1 + (draw (draw (digP b) 3).2 5).1).toNat, by have : 0 ≤ (draw (draw (digP b) 3).2 5).1 := g0; omega⟩
  have fa0 : 0 < fa := by have : 0 ≤ (draw (draw (digP b) 3).2 5).1 := g0; omega
  have fa5 : fa ≤ 5 := by have : (draw (draw (digP b) 3).2 5).1 < 5 := g1; omega
  have w20 : 1 ≤ w2 ∧ w2 ≤ 12001 := by
    have : (draw (digP b) 3).1 < 3 := f1
    have : 0 ≤ (draw (digP b) 3).1 := f0
    omega
  refine ss_cons (s1_par3 1 2 3 rfl sc_Ldigits_bound.nd (ax_cons (EE.is (ex_draw D hr hb.n10 (ex_nm 0) ex_int) (congrArg Dt.int hk)) (ax_cons (EE.is (ex_bin ex_int (ex_draw D hr b1.n10 (ex_nm 0) ex_int) o_add) (congrArg Dt.int hw)) (ax_cons (EE.is (ex_bin ex_int (ex_draw D hr b2.n10 (ex_nm 0) ex_int) o_add) (congrArg Dt.int hs)) ax_nil))) ?_)
  have pick : ∃ fs ls : Nat, [Dt.tup [.int (wd : Int), .int 1], .tup [.int (wd : Int), .int (sm : Int)], .tup [.int (sm : Int), .int (wd : Int)], .tup [.int (wd : Int), .int (w2 : Int)]][k]? = some (.tup [.int (fs : Int), .int (ls : Int)]) ∧ 1 ≤ fs ∧ fs ≤ 12002 ∧ 1 ≤ ls ∧ ls ≤ 12002 := by
    have hk4 : k < 4 := by omega
    match k, hk4 with
    | 0, _ => exact ⟨wd, 1, rfl, by omega, by omega, by omega, by omega⟩
    | 1, _ => exact ⟨wd, sm, rfl, by omega, by omega, by omega, by omega⟩
    | 2, _ => exact ⟨sm, wd, rfl, by omega, by omega, by omega, by omega⟩
    | 3, _ => exact ⟨wd, w2, rfl, by omega, by omega, by omega, by omega⟩
  obtain ⟨fs, ls, hg, p1, p2, p3, p4⟩ := pick
  refine ss_cons (s1_asg (ex_at (ex_ls (ax_cons (ex_tp (ax_cons (ex_nm 2) (ax_cons ex_int ax_nil))) (ax_cons (ex_tp (ax_cons (ex_nm 2) (ax_cons (ex_nm 3) ax_nil))) (ax_cons (ex_tp (ax_cons (ex_nm 3) (ax_cons (ex_nm 2) ax_nil))) (ax_cons (ex_tp (ax_cons (ex_nm 2) (ax_cons (EE.is (ex_bin ex_int (ex_draw D hr b3.n10 (ex_nm 0) ex_int) o_add) (congrArg Dt.int h2)) ax_nil))) ax_nil))))) (ex_nm 1) (i_lst hg)) (gx_tup rfl (gxs_cons (gx_nm 4 sc_Ldigits_bound.nd) (gxs_cons (gx_nm 5 sc_Ldigits_bound.nd) gxs_nil))) ?_)
  have sh : ∀ m : Nat, 1 ≤ m → m ≤ 12002 → CShl 1 ((m : Int) - 1) := fun m h1 h2 => ⟨by omega, by
    have : Builtin.Int.intBits 1 = 1 := rfl
    rw [this]
    omega⟩
  have es : ∀ m : Nat, 1 ≤ m → (1 : Int) * 2 ^ ((m : Int) - 1).toNat = ((2 ^ (m - 1) : Nat) : Int) := fun m h1 => by
    rw [Int.one_mul, show ((m : Int) - 1).toNat = m - 1 by omega]
    simp
  refine ss_cons (s1_asg (ex_tp (ax_cons (d := .int (topN fs : Int)) (EE.is (ex_bin (ex_bin ex_int (ex_bin (ex_nm 4) ex_int o_sub) (o_shl (sh fs p1 p2))) (ex_if (d := .int ((if 1 < fs then 1 else 0 : Nat) : Int)) (tx_cp (d2 := .int ((1 : Nat) : Int)) (ex_nm 4) ex_int c_gtN) (fun h => ?_) fun h => ?_) o_add) ?_) (ax_cons (d := .int (botN ls : Int)) (EE.is (ex_bin ex_int (ex_bin (ex_nm 5) ex_int o_sub) (o_shl (sh ls p3 p4))) (congrArg Dt.int (es ls p3))) ax_nil))) (gx_tup rfl (gxs_cons (gx_nm 6 sc_Ldigits_bound.nd) (gxs_cons (gx_nm 7 sc_Ldigits_bound.nd) gxs_nil))) ?_)
  · rw [if_pos (of_decide_eq_true h)]
    exact ex_int
  · rw [if_neg (of_decide_eq_false h)]
    exact ex_int
  · rw [es fs p1]
    unfold topN
    rw [Int.natCast_add]
  have ht := topN_le p2
  have hbo := botN_le p4
  have hcop : Nat.gcd (topN fs) (botN ls) = 1 := cop_pow (topN_odd p1) _
  have hb0 : 0 < botN ls := Nat.two_pow_pos _
  have hbits : bitN (topN fs, botN ls) = max fs ls := by
    unfold bitN
    rw [bits_top p1, bits_bot p3]
  refine ss_cons (s1_set 8 sc_Ldigits_bound.nd (EE.is (ex_bin ex_int (ex_draw D hr b4.n10 (ex_nm 0) ex_int) o_add) (congrArg Dt.int h3)) ?_)
  show SS _ _ _ ((p, .l (digM b).cells) :: M0) _
  have hplM := plM_box (p := p) (b := digM b) hpl
  generalize digM b = b' at hR hplM
  refine ss_cons (s1_set 9 sc_Ldigits_bound.nd (ex_max rfl B.max (ex_nm 4) (ex_nm 5)) ?_)
  obtain ⟨hgc, hlow⟩ := low_fac fa0 hb0 hcop
  have hfr : isFr (.tup [.int ((fa * topN fs : Nat) : Int), .int ((fa * botN ls : Nat) : Int)]) = true := by
    have : 0 < fa * botN ls := Nat.mul_pos fa0 hb0
    have h1 : (0 : Int) ≤ ((fa * topN fs : Nat) : Int) := Int.natCast_nonneg _
    have h2 : (1 : Int) ≤ ((fa * botN ls : Nat) : Int) := by omega
    simp only [isFr, decide_eq_true h1, decide_eq_true h2, Bool.and_self]
  have hfn : frN (.tup [.int ((fa * topN fs : Nat) : Int), .int ((fa * botN ls : Nat) : Int)]) = (fa * topN fs, fa * botN ls) := by
    show (Int.toNat _, Int.toNat _) = _
    rw [Int.toNat_natCast, Int.toNat_natCast]
  have hrd : red (.tup [.int ((fa * topN fs : Nat) : Int), .int ((fa * botN ls : Nat) : Int)]) = (topN fs, botN ls) := by
    unfold red
    rw [hfn]
    exact hlow
  have txt : ∀ {M R Z}, (if 12000 < max fs ls then Z (cl 17) (cks 17) (cfs 17 [.str "bits", .int ((max fs ls : Nat) : Int)]) M else R (.str (wordN (topN fs, botN ls))) M) → cText cl [.tup [.int ((fa * topN fs : Nat) : Int), .int ((fa * botN ls : Nat) : Int)]] M R Z := fun {M R Z} q => by
    refine ⟨_, rfl, isFr.okd hfr, fun _ => ?_, orBad_ok (fun d hd => by rw [List.mem_singleton.mp hd]; exact hfr) ?_⟩
    · rw [hfn, hgc]
      exact Nat.lt_of_le_of_lt fa5 (by decide)
    · rw [hrd, hbits]
      exact q
  have fa3 : fa ≤ 2 ^ 3 := by omega
  refine ss_cons (s1_if (tx_cp (d2 := .int ((12000 : Nat) : Int)) (ex_nm 9) ex_int c_gtN) (fun h => ?_) fun h => ss_nil ?_)
  · have h : 12000 < max fs ls := of_decide_eq_true h
    refine ss_one (s1_ret (ex_lamcall (fr := ["factor", "top", "bottom"]) (l := [.int (fa : Int), .int (topN fs : Int), .int (botN ls : Int)]) (Rc := fun _ _ => False) (Zc := ZOne cl 17 [.str "bits", .int ((max fs ls : Nat) : Int)] _) (k := 6) Df1 hr (by decide) TB rfl (List.mem_cons_of_mem _ hT) (ls_by (by decide +kernel)) rfl (fun _ _ _ _ _ => rfl) (show ∀ y ∈ [("factor" : Str), "top", "bottom"], (defScope s_Ldigits_bound).names.lookup y = some .cell by decide +kernel) (by decide +kernel) (fun _ _ => rfl) [8, 6, 7] rfl rfl rfl hplM
        (ex_tp (ax_cons ex_str (ax_cons ex_str (ax_cons (ex_nm 9) ax_nil)))) (fun f c' cl' A outer s H E hr' => ez_call Pr.text hr' (ax_cons (ex_tp (ax_cons (ex_bin (ex_nm 0) (ex_nm 1) (o_mulN fa3 ht (by decide))) (ax_cons (ex_bin (ex_nm 0) (ex_nm 2) (o_mulN fa3 hbo (by decide))) ax_nil))) ax_nil) (txt (by rw [if_pos h]; exact ⟨rfl, rfl, rfl, rfl⟩))) (fun f L vs F => ⟨f, L, _, vs, 17, [.str "bits", .int ((max fs ls : Nat) : Int)], rfl, .inr (.inr rfl), rfl, F, rfl, rfl, rfl⟩)) (.of hR))
  · have h : ¬ 12000 < max fs ls := of_decide_eq_false h
    have zt : ((topN fs : Nat) : Int).natAbs < 10 ^ 4300 := by
      rw [Int.natAbs_natCast]
      exact Nat.lt_of_le_of_lt ht big_12002
    have zb : ((botN ls : Nat) : Int).natAbs < 10 ^ 4300 := by
      rw [Int.natAbs_natCast]
      exact Nat.lt_of_le_of_lt hbo big_12002
    have l1 := tInt_len zt
    have l2 := tInt_len zb
    have ea : ∀ x y : Str, (x ++ y).length = x.length + y.length := fun x y => Array.size_append
    have hls : (slS : Str).length = 1 := rfl
    refine ss_one (s1_ret (ex_call Dl hr (ax_cons (ex_call Pr.text hr (ax_cons (ex_tp (ax_cons (ex_bin (ex_nm 8) (ex_nm 6) (o_mulN fa3 ht (by decide))) (ax_cons (ex_bin (ex_nm 8) (ex_nm 7) (o_mulN fa3 hbo (by decide))) ax_nil))) ax_nil) (txt (by rw [if_neg h]; exact ⟨rfl, rfl⟩)))
      (ax_cons (d := .str (wordN (topN fs, botN ls))) (EE.is (ex_bin (ex_strI rfl hdig B.str (ex_nm 6) zt) (ex_if (d := .str (if 1 < botN ls then slS ++ (toString ((botN ls : Nat) : Int) : Str) else Str.empty)) (tx_cp (d2 := .int ((1 : Nat) : Int)) (ex_nm 7) ex_int c_gtN) (fun q => ?_) fun q => ?_) (o_catS ?_)) ?_) ax_nil)) ⟨_, rfl, rfl, rfl, rfl⟩) (.of hR))
    · rw [if_pos (of_decide_eq_true q)]
      exact ex_bin ex_str (ex_strI rfl hdig B.str (ex_nm 7) zb) (o_catS (s := slS) (by rw [hls]; omega))
    · rw [if_neg (of_decide_eq_false q)]
      exact ex_str
    · split
      · rw [ea, hls]
        omega
      · show _ + 0 ≤ _
        omega
    · rcases word_two (x := topN fs) (y := botN ls) with e | e
      · rw [e]
      · omega
end
end K1

set_option Elab.async false
set_option linter.all false
set_option maxRecDepth 100000
set_option maxHeartbeats 1000000
set_option exponentiation.threshold 100000
/-! K29: law. -/
namespace K1
open PySem PySem.Spec PyProof.Rows L2 HM TX XN L2H LM L2N LamX
section
variable {X : Cx} {a b : Expr} {rest : List Expr} {G : List (Option Dt)} {M M1 M2 : Mst} {pos : Pos} {k k2 : Bool}
theorem wx_orF (h : TX X a G M false M1) (h2 : WX' X (.BoolOp .Or (b :: rest) pos) G M1 k2 M2) : WX' X (.BoolOp .Or (a :: b :: rest) pos) G M k2 M2 :=
  ⟨h2.1.trans h.1, fun σ F H Q rs s q => w_w (pw_or pt_w pw_w) (h.2 σ F H _ rs s fun F1 H1 g1 s1 => iteF (h2.2 σ F1 H1 _ (rs.mono g1.sub) s1 fun F2 H2 g2 s2 => q F2 H2 (gr2 h.1 g1 g2) s2))⟩
theorem ex_orT (h : EX X a G M (.bl true) M1) : EX X (.BoolOp .Or (a :: b :: rest) pos) G M (.bl true) M1 :=
  ⟨h.1, fun σ F H Q rs s q => w_e (pe_or pe_w pe_w) (h.2 σ F H _ rs s fun v F1 H1 g1 s1 r1 => ⟨true, r1, iteT (q _ F1 H1 g1 s1 rfl)⟩)⟩
theorem ex_orF (h : EX X a G M (.bl false) M1) (h2 : EX X (.BoolOp .Or (b :: rest) pos) G M1 (.bl k2) M2) : EX X (.BoolOp .Or (a :: b :: rest) pos) G M (.bl k2) M2 :=
  ⟨h2.1.trans h.1, fun σ F H Q rs s q => w_e (pe_or pe_w pe_w) (h.2 σ F H _ rs s fun v F1 H1 g1 s1 r1 => ⟨false, r1, iteF (h2.2 σ F1 H1 _ (rs.mono g1.sub) s1 fun v F2 H2 g2 s2 r2 => q v F2 H2 (gr2 h.1 g1 g2) s2 r2)⟩)⟩
end
def fst_ (b : Bx) : Nat → Bx
  | 0 => b
  | k + 1 => (fracM (fst_ b k)).2
def fel (b : Bx) (k : Nat) : Dt := (fracM (fst_ b k)).1
theorem fst_ok {k : Int} {b : Bx} (h : Bd k b) : ∀ n : Nat, Bd (k + 5 * n) (fst_ b n)
  | 0 => h.mono (by omega)
  | n + 1 => (fracM_ok (fst_ok h n)).1.mono (by omega)
theorem fel_ok {k : Int} {b : Bx} (h : Bd k b) (n : Nat) : Fit (fel b n) := (fracM_ok (fst_ok h n)).2
def itr (f : Bx → Bx) (b : Bx) : Nat → Bx
  | 0 => b
  | k + 1 => f (itr f b k)
theorem itr_ok {f : Bx → Bx} {c k : Int} {b : Bx} (h : Bd k b) (hf : ∀ {k b}, Bd k b → Bd (k + c) (f b)) : ∀ n : Nat, Bd (k + c * n) (itr f b n)
  | 0 => h.mono (by omega)
  | n + 1 => (hf (itr_ok h hf n)).mono (by
    rw [Int.natCast_add, Int.mul_add]
    omega)
def cLaw (P1 P2 P3 P4 : Addr) : Ct := fun ds M R _ => ∃ l : List Int, ds = [.lst (l.map Dt.int)] ∧ (P1, Mu.t (lamQ "_law_pairs")) ∈ M ∧ (P2, Mu.t (lamQ "_law_wrong")) ∈ M ∧ (P3, Mu.t (lamQ "_law_reads")) ∈ M ∧ (P4, Mu.t (lamQ "_law_digits_bound")) ∈ M ∧ plM M = true ∧ R (.bl true) M
section
variable {P : Program} {w : World} {K : PySem.W.Frag} {mg : Str → Option Value} {base : Heap} {cl : Nat → Addr}
theorem b_law {P1 P2 P3 P4 : Addr} (B : Bl mg) (Db : DfBox P w K mg base) (D : Df P w K mg base "_law_draw" 1 cDraw) (Dfr : Df P w K mg base "_law_fraction" 2 cFrac) (Dsu : Df P w K mg base "_law_sums" 13 cSums)
    (Dpa : Df P w K mg base "_law_pairs" 14 (cPairs P1)) (Dwr : Df P w K mg base "_law_wrong" 14 (cWrong P2)) (Dre : Df P w K mg base "_law_reads" 14 (cReads P3)) (Dco : Df P w K mg base "_law_common" 13 cCommon) (Dke : Df P w K mg base "_law_kept" 14 cKept) (Dby : Df P w K mg base "_law_by_base" 6 cBase) (Ddi : Df P w K mg base "_law_digits_bound" 14 (cDigB P4)) :
    BodyOk P w K mg base N_law ["script"] "law" s_law 14 (cLaw P1 P2 P3 P4) := by
  intro f cdv A outer s H E ds M R Z hr hl ⟨l, e, h1, h2, h3, h4, hpl, hR⟩
  subst e
  refine ss_cons (s1_box 1 Db hr sc_law.nd (ex_nm 0) fun p hp => ?_)
  have hb := box0_ok l
  generalize box0 l = b at hb
  have fin : ∀ b' : Bx, Kept M (R (.bl true)) ((p, .l b'.cells) :: M) := fun b' => ⟨[(p, .l b'.cells)], M, rfl, rfl, hR⟩
  -- items
  refine ss_cons (s1_lcI (out := [fel b 0, fel b 1, fel b 2, fel b 3, fel b 4]) (M' := (p, .l (fst_ b 5).cells) :: M) (M1 := (p, .l b.cells) :: M) (ds := rng 0 5) 3 2 rfl sc_law.nd (ix_range (n := 5) B.range (ax_cons ex_int ax_nil) (by decide)) (by exact (show BlkOk N_law (defScope s_law) _ [("k", 3)] from ⟨rfl, by decide +kernel, by decide +kernel, by decide +kernel, by decide +kernel⟩)) (fun j Mi acc => j ≤ 5 ∧ Mi = (p, .l (fst_ b j).cells) :: M ∧ acc = (List.range j).map (fel b)) ⟨by omega, rfl, rfl⟩ (fun j Mi acc ⟨h0, h1, h2⟩ => ⟨by rw [h1]; rfl, by rw [h2]; simp; omega⟩) (fun j d Mi acc hj ⟨h0, h1, h2⟩ => ?_) (fun Mn acc ⟨h0, h1, h2⟩ => ⟨h1, h2⟩) rfl ?_)
  · subst h1 h2
    have hj5 : j < 5 := by
      have := (List.getElem?_eq_some_iff.mp hj).1
      rw [rng_len] at this
      exact this
    have gj := (fst_ok hb j).mono (k := 999000) (by omega)
    refine ⟨fel b j, (p, .l (fst_ b (j + 1)).cells) :: M, fun s H C cl fp => ?_, hj5, rfl, by rw [List.range_succ, List.map_append]; rfl⟩
    exact ex_call Dfr hr (ax_cons (ex_nm 1) ax_nil) ⟨p, _, M, rfl, rfl, gj, rfl, rfl⟩
  have g5 := fst_ok hb 5
  have fit : ∀ x ∈ [fel b 0, fel b 1, fel b 2, fel b 3, fel b 4], Fit x := fun x hx => by
    simp at hx
    rcases hx with rfl | rfl | rfl | rfl | rfl <;> exact fel_ok hb _
  generalize fel b 0 = x0 at fit
  generalize fel b 1 = x1 at fit
  generalize fel b 2 = x2 at fit
  generalize fel b 3 = x3 at fit
  generalize fel b 4 = x4 at fit
  generalize fst_ b 5 = b5 at g5
  refine ss_cons (s1_if (k := false) (tx_not (k := true) (tx_val (ex_call Dsu hr (ax_cons (ex_nm 1) (ax_cons (ex_nm 2) ax_nil)) ⟨_, x0, x1, x2, x3, x4, rfl, fit, rfl, rfl⟩))) (fun z => absurd z (by simp)) fun _ => ss_nil ?_)
  -- pairs
  refine ss_cons (s1_for (fun i G' M' => M' = (p, .l (itr pairM b5 i).cells) :: M ∧ ∃ o, G' = [some (.lst (l.map Dt.int)), some (.raw (.ref p)), some (.lst [x0, x1, x2, x3, x4]), none, o]) (ix_range (n := 3) B.range (ax_cons ex_int ax_nil) (by decide)) rfl ⟨rfl, none, rfl⟩ ?_ ?_ (fun i G' M' h => by rw [h.1]; rfl) PassesOwn.leaving)
  · rintro i d G' M' hd ⟨rfl, o, rfl⟩
    have hi : i < 3 := by
      have := (List.getElem?_eq_some_iff.mp hd).1
      rw [rng_len] at this
      exact this
    have gi := (itr_ok (c := 3) g5 pairM_ok i).mono (k := 998000) (by omega)
    refine ⟨_, gx_nm 4 sc_law.nd, ?_⟩
    exact ss_one (s1_if (k := false) (tx_not (k := true) (tx_val (ex_call Dpa hr (ax_cons (ex_nm 1) (ax_cons (ex_nm 2) ax_nil)) ⟨p, _, M, _, rfl, rfl, gi, rfl, fit, h1, hpl, rfl, rfl⟩))) (fun z => absurd z (by simp)) fun _ => ss_nil ⟨rfl, _, rfl⟩)
  rintro G' M' ⟨rfl, o, rfl⟩
  rw [rng_len]
  have g6 := (itr_ok (c := 3) g5 pairM_ok 3).mono (k := 100) (by omega)
  show SS _ _ _ ((p, .l (itr pairM b5 3).cells) :: M) _
  generalize itr pairM b5 3 = b6 at g6
  -- wrong
  refine ss_cons (s1_for (fun i G' M' => M' = (p, .l (itr wrongM b6 i).cells) :: M ∧ ∃ o, G' = [some (.lst (l.map Dt.int)), some (.raw (.ref p)), some (.lst [x0, x1, x2, x3, x4]), none, o]) (ix_range (n := 10) B.range (ax_cons ex_int ax_nil) (by decide)) rfl ⟨rfl, o, rfl⟩ ?_ ?_ (fun i G' M' h => by rw [h.1]; rfl) PassesOwn.leaving)
  · rintro i d G' M' hd ⟨rfl, o, rfl⟩
    have hi : i < 10 := by
      have := (List.getElem?_eq_some_iff.mp hd).1
      rw [rng_len] at this
      exact this
    have gi := (itr_ok (c := 19) g6 wrongM_ok i).mono (k := 990000) (by omega)
    refine ⟨_, gx_nm 4 sc_law.nd, ?_⟩
    exact ss_one (s1_if (k := false) (tx_not (k := true) (tx_val (ex_call Dwr hr (ax_cons (ex_nm 1) ax_nil) ⟨p, _, M, rfl, rfl, gi, h2, hpl, rfl, rfl⟩))) (fun z => absurd z (by simp)) fun _ => ss_nil ⟨rfl, _, rfl⟩)
  rintro G' M' ⟨rfl, o, rfl⟩
  rw [rng_len]
  have g7 := (itr_ok (c := 19) g6 wrongM_ok 10).mono (k := 300) (by omega)
  show SS _ _ _ ((p, .l (itr wrongM b6 10).cells) :: M) _
  generalize itr wrongM b6 10 = b7 at g7
  have g8 := readsM_ok g7
  have g9 := commM_ok g8
  have gA := keptM_ok g9
  refine ss_cons (s1_if (k := false) (tx_w (wx_orF (tx_not (k := true) (tx_val (ex_call Dre hr (ax_cons (ex_nm 1) ax_nil) ⟨p, b7, M, rfl, rfl, g7.mono (by omega), h3, hpl, rfl, rfl⟩))) (wx_orF (tx_not (k := true) (tx_val (ex_call Dco hr (ax_cons (ex_nm 1) ax_nil) ⟨p, readsM b7, M, rfl, rfl, g8.mono (by omega), rfl, rfl⟩))) (wx_orF (tx_not (k := true) (tx_val (ex_call Dke hr (ax_cons (ex_nm 1) ax_nil) ⟨p, commM (readsM b7), M, rfl, rfl, g9.mono (by omega), rfl, rfl⟩))) (wx_or1 (tx_not (k := true) (tx_val (ex_call0 Dby hr ⟨rfl, rfl, rfl⟩)))))))) (fun z => absurd z (by simp)) fun _ => ss_nil ?_)
  show SS _ _ _ ((p, .l (keptM (commM (readsM b7))).cells) :: M) _
  generalize keptM (commM (readsM b7)) = b8 at gA
  obtain ⟨gB, _, _⟩ := draw_ok (size := 4) gA (by decide)
  by_cases h0 : 0 < (draw b8 4).1
  · exact ss_one (s1_ret (d := .bl true) (ex_orT (EE.is (ex_cp (ex_draw D hr gA.n10 (ex_nm 1) ex_int) ex_int c_gt) (congrArg Dt.bl (decide_eq_true h0)))) (fin _))
  · exact ss_one (s1_ret (ex_orF (EE.is (ex_cp (ex_draw D hr gA.n10 (ex_nm 1) ex_int) ex_int c_gt) (congrArg Dt.bl (decide_eq_false h0))) (ex_one (ex_call Ddi hr (ax_cons (ex_nm 1) ax_nil) ⟨p, _, M, rfl, rfl, gB.mono (by omega), h4, hpl, rfl, rfl⟩))) (fin _))
end
end K1

set_option Elab.async false
set_option linter.all false
set_option maxRecDepth 100000
set_option maxHeartbeats 2000000
/-! H6: the facts of the written part, out of the head's tests. -/
namespace Hk
open PySem PySem.Spec PyProof.Rows L2 HM TX XN K1
open He (ga ma eqO eqO_ok ba frG frG_at frG_in growD)
theorem is0 : InitS (iS 0) ["value"] := ⟨rfl, rfl, rfl, by decide +kernel, by decide +kernel, rfl, rfl, ⟨_, rfl, rfl⟩, by decide +kernel, fun x qual kV doc pm an cdv ct cc u us h => by
  match us, h with
  | [u0], _ => rfl⟩
theorem xb0 : XBody (iS 0) "BadName" ["value"] := ⟨_, _, _, _, _, _, _, _, _, _, _, _, _, _, rfl, (.cons .nil (by decide)), rfl⟩
theorem is1 : InitS (iS 1) ["value"] := ⟨rfl, rfl, rfl, by decide +kernel, by decide +kernel, rfl, rfl, ⟨_, rfl, rfl⟩, by decide +kernel, fun x qual kV doc pm an cdv ct cc u us h => by
  match us, h with
  | [u0], _ => rfl⟩
theorem xb1 : XBody (iS 1) "BadFraction" ["value"] := ⟨_, _, _, _, _, _, _, _, _, _, _, _, _, _, rfl, (.cons .nil (by decide)), rfl⟩
theorem is2 : InitS (iS 2) ["value"] := ⟨rfl, rfl, rfl, by decide +kernel, by decide +kernel, rfl, rfl, ⟨_, rfl, rfl⟩, by decide +kernel, fun x qual kV doc pm an cdv ct cc u us h => by
  match us, h with
  | [u0], _ => rfl⟩
theorem xb2 : XBody (iS 2) "BadNumber" ["value"] := ⟨_, _, _, _, _, _, _, _, _, _, _, _, _, _, rfl, (.cons .nil (by decide)), rfl⟩
theorem is3 : InitS (iS 3) ["line", "why"] := ⟨rfl, rfl, rfl, by decide +kernel, by decide +kernel, rfl, rfl, ⟨_, rfl, rfl⟩, by decide +kernel, fun x qual kV doc pm an cdv ct cc u us h => by
  match us, h with
  | [u0, u1], _ => rfl⟩
theorem xb3 : XBody (iS 3) "BadGround" ["line", "why"] := ⟨_, _, _, _, _, _, _, _, _, _, _, _, _, _, rfl, (.cons (.cons .nil (by decide)) (by decide)), rfl⟩
theorem is4 : InitS (iS 4) ["line", "why"] := ⟨rfl, rfl, rfl, by decide +kernel, by decide +kernel, rfl, rfl, ⟨_, rfl, rfl⟩, by decide +kernel, fun x qual kV doc pm an cdv ct cc u us h => by
  match us, h with
  | [u0, u1], _ => rfl⟩
theorem xb4 : XBody (iS 4) "BadBook" ["line", "why"] := ⟨_, _, _, _, _, _, _, _, _, _, _, _, _, _, rfl, (.cons (.cons .nil (by decide)) (by decide)), rfl⟩
theorem is5 : InitS (iS 5) ["line", "why"] := ⟨rfl, rfl, rfl, by decide +kernel, by decide +kernel, rfl, rfl, ⟨_, rfl, rfl⟩, by decide +kernel, fun x qual kV doc pm an cdv ct cc u us h => by
  match us, h with
  | [u0, u1], _ => rfl⟩
theorem xb5 : XBody (iS 5) "BadRecipe" ["line", "why"] := ⟨_, _, _, _, _, _, _, _, _, _, _, _, _, _, rfl, (.cons (.cons .nil (by decide)) (by decide)), rfl⟩
theorem is6 : InitS (iS 6) ["line", "why"] := ⟨rfl, rfl, rfl, by decide +kernel, by decide +kernel, rfl, rfl, ⟨_, rfl, rfl⟩, by decide +kernel, fun x qual kV doc pm an cdv ct cc u us h => by
  match us, h with
  | [u0, u1], _ => rfl⟩
theorem xb6 : XBody (iS 6) "BadLook" ["line", "why"] := ⟨_, _, _, _, _, _, _, _, _, _, _, _, _, _, rfl, (.cons (.cons .nil (by decide)) (by decide)), rfl⟩
theorem is7 : InitS (iS 7) ["line", "why"] := ⟨rfl, rfl, rfl, by decide +kernel, by decide +kernel, rfl, rfl, ⟨_, rfl, rfl⟩, by decide +kernel, fun x qual kV doc pm an cdv ct cc u us h => by
  match us, h with
  | [u0, u1], _ => rfl⟩
theorem xb7 : XBody (iS 7) "BadTerm" ["line", "why"] := ⟨_, _, _, _, _, _, _, _, _, _, _, _, _, _, rfl, (.cons (.cons .nil (by decide)) (by decide)), rfl⟩
theorem is8 : InitS (iS 8) ["at", "why"] := ⟨rfl, rfl, rfl, by decide +kernel, by decide +kernel, rfl, rfl, ⟨_, rfl, rfl⟩, by decide +kernel, fun x qual kV doc pm an cdv ct cc u us h => by
  match us, h with
  | [u0, u1], _ => rfl⟩
theorem xb8 : XBody (iS 8) "BadQuestion" ["at", "why"] := ⟨_, _, _, _, _, _, _, _, _, _, _, _, _, _, rfl, (.cons (.cons .nil (by decide)) (by decide)), rfl⟩
theorem is9 : InitS (iS 9) ["sign"] := ⟨rfl, rfl, rfl, by decide +kernel, by decide +kernel, rfl, rfl, ⟨_, rfl, rfl⟩, by decide +kernel, fun x qual kV doc pm an cdv ct cc u us h => by
  match us, h with
  | [u0], _ => rfl⟩
theorem xb9 : XBody (iS 9) "BadReading" ["sign"] := ⟨_, _, _, _, _, _, _, _, _, _, _, _, _, _, rfl, (.cons .nil (by decide)), rfl⟩
theorem is10 : InitS (iS 10) ["line", "why"] := ⟨rfl, rfl, rfl, by decide +kernel, by decide +kernel, rfl, rfl, ⟨_, rfl, rfl⟩, by decide +kernel, fun x qual kV doc pm an cdv ct cc u us h => by
  match us, h with
  | [u0, u1], _ => rfl⟩
theorem xb10 : XBody (iS 10) "BadScript" ["line", "why"] := ⟨_, _, _, _, _, _, _, _, _, _, _, _, _, _, rfl, (.cons (.cons .nil (by decide)) (by decide)), rfl⟩
theorem is11 : InitS (iS 11) ["name"] := ⟨rfl, rfl, rfl, by decide +kernel, by decide +kernel, rfl, rfl, ⟨_, rfl, rfl⟩, by decide +kernel, fun x qual kV doc pm an cdv ct cc u us h => by
  match us, h with
  | [u0], _ => rfl⟩
theorem xb11 : XBody (iS 11) "NotBare" ["name"] := ⟨_, _, _, _, _, _, _, _, _, _, _, _, _, _, rfl, (.cons .nil (by decide)), rfl⟩
theorem is12 : InitS (iS 12) ["condition", "crowd"] := ⟨rfl, rfl, rfl, by decide +kernel, by decide +kernel, rfl, rfl, ⟨_, rfl, rfl⟩, by decide +kernel, fun x qual kV doc pm an cdv ct cc u us h => by
  match us, h with
  | [u0, u1], _ => rfl⟩
theorem xb12 : XBody (iS 12) "NotOne" ["condition", "crowd"] := ⟨_, _, _, _, _, _, _, _, _, _, _, _, _, _, rfl, (.cons (.cons .nil (by decide)) (by decide)), rfl⟩
theorem is13 : InitS (iS 13) ["why"] := ⟨rfl, rfl, rfl, by decide +kernel, by decide +kernel, rfl, rfl, ⟨_, rfl, rfl⟩, by decide +kernel, fun x qual kV doc pm an cdv ct cc u us h => by
  match us, h with
  | [u0], _ => rfl⟩
theorem xb13 : XBody (iS 13) "NotScorer" ["why"] := ⟨_, _, _, _, _, _, _, _, _, _, _, _, _, _, rfl, (.cons .nil (by decide)), rfl⟩
theorem is14 : InitS (iS 14) ["what"] := ⟨rfl, rfl, rfl, by decide +kernel, by decide +kernel, rfl, rfl, ⟨_, rfl, rfl⟩, by decide +kernel, fun x qual kV doc pm an cdv ct cc u us h => by
  match us, h with
  | [u0], _ => rfl⟩
theorem xb14 : XBody (iS 14) "NoChance" ["what"] := ⟨_, _, _, _, _, _, _, _, _, _, _, _, _, _, rfl, (.cons .nil (by decide)), rfl⟩
theorem is15 : InitS (iS 15) ["what"] := ⟨rfl, rfl, rfl, by decide +kernel, by decide +kernel, rfl, rfl, ⟨_, rfl, rfl⟩, by decide +kernel, fun x qual kV doc pm an cdv ct cc u us h => by
  match us, h with
  | [u0], _ => rfl⟩
theorem xb15 : XBody (iS 15) "Unlike" ["what"] := ⟨_, _, _, _, _, _, _, _, _, _, _, _, _, _, rfl, (.cons .nil (by decide)), rfl⟩
theorem is16 : InitS (iS 16) ["kind"] := ⟨rfl, rfl, rfl, by decide +kernel, by decide +kernel, rfl, rfl, ⟨_, rfl, rfl⟩, by decide +kernel, fun x qual kV doc pm an cdv ct cc u us h => by
  match us, h with
  | [u0], _ => rfl⟩
theorem xb16 : XBody (iS 16) "TooFew" ["kind"] := ⟨_, _, _, _, _, _, _, _, _, _, _, _, _, _, rfl, (.cons .nil (by decide)), rfl⟩
theorem is17 : InitS (iS 17) ["what", "count"] := ⟨rfl, rfl, rfl, by decide +kernel, by decide +kernel, rfl, rfl, ⟨_, rfl, rfl⟩, by decide +kernel, fun x qual kV doc pm an cdv ct cc u us h => by
  match us, h with
  | [u0, u1], _ => rfl⟩
theorem xb17 : XBody (iS 17) "TooMany" ["what", "count"] := ⟨_, _, _, _, _, _, _, _, _, _, _, _, _, _, rfl, (.cons (.cons .nil (by decide)) (by decide)), rfl⟩
theorem is18 : InitS (iS 18) ["name"] := ⟨rfl, rfl, rfl, by decide +kernel, by decide +kernel, rfl, rfl, ⟨_, rfl, rfl⟩, by decide +kernel, fun x qual kV doc pm an cdv ct cc u us h => by
  match us, h with
  | [u0], _ => rfl⟩
theorem xb18 : XBody (iS 18) "NoSuch" ["name"] := ⟨_, _, _, _, _, _, _, _, _, _, _, _, _, _, rfl, (.cons .nil (by decide)), rfl⟩
theorem is19 : InitS (iS 19) ["what"] := ⟨rfl, rfl, rfl, by decide +kernel, by decide +kernel, rfl, rfl, ⟨_, rfl, rfl⟩, by decide +kernel, fun x qual kV doc pm an cdv ct cc u us h => by
  match us, h with
  | [u0], _ => rfl⟩
theorem xb19 : XBody (iS 19) "Ended" ["what"] := ⟨_, _, _, _, _, _, _, _, _, _, _, _, _, _, rfl, (.cons .nil (by decide)), rfl⟩
theorem bas_of (i : Nat) : Bas (baN i).1 (baN i).2.1 (baN i).2.2.1 (baN i).2.2.2 := by
  unfold baN
  split
  · exact basLE
  · split
    · exact basRE
    · exact basVE
theorem txt_of : ∀ i, i < 20 → InitS (iS i) (cps i) ∧ XBody (iS i) (cnm i) (cps i)
  | 0, _ => ⟨is0, xb0⟩
  | 1, _ => ⟨is1, xb1⟩
  | 2, _ => ⟨is2, xb2⟩
  | 3, _ => ⟨is3, xb3⟩
  | 4, _ => ⟨is4, xb4⟩
  | 5, _ => ⟨is5, xb5⟩
  | 6, _ => ⟨is6, xb6⟩
  | 7, _ => ⟨is7, xb7⟩
  | 8, _ => ⟨is8, xb8⟩
  | 9, _ => ⟨is9, xb9⟩
  | 10, _ => ⟨is10, xb10⟩
  | 11, _ => ⟨is11, xb11⟩
  | 12, _ => ⟨is12, xb12⟩
  | 13, _ => ⟨is13, xb13⟩
  | 14, _ => ⟨is14, xb14⟩
  | 15, _ => ⟨is15, xb15⟩
  | 16, _ => ⟨is16, xb16⟩
  | 17, _ => ⟨is17, xb17⟩
  | 18, _ => ⟨is18, xb18⟩
  | 19, _ => ⟨is19, xb19⟩
  | n + 20, h => absurd h (by omega)
abbrev Pg : Program := R.prog
theorem top_super : (Pg.main.scope.names.lookup ("super" : Str)).isSome = false := by decide +kernel
section
variable {K : PySem.W.Frag} {h base : Heap} {mg : Str → Option Value} {w : World}
theorem all_mem {α : Type} {l : List α} {f : α → Bool} (e : (l.map f).all id = true) : ∀ a ∈ l, f a = true := fun a ha => List.all_eq_true.mp e _ (List.mem_map.mpr ⟨a, ha, rfl⟩)
theorem all_flat {l : List Nat} {f : Nat → List Bool} (e : (l.flatMap f).all id = true) : ∀ a ∈ l, (f a).all id = true := fun a ha => List.all_eq_true.mpr fun b hb => List.all_eq_true.mp e b (List.mem_flatMap.mpr ⟨a, ha, hb⟩)
theorem def_at (X : K.In h) (G : h.Ns mainGlobals mg) (c1 : (chk1 K).all id = true) (hv : fvs K = fvsW) (i : Nat) {x : Str} {st : Stmt} (hi : defs[i]? = some (x, st)) : FunC K mg x st := by
  refine funC_of X G (all_mem c1 (x, st) (List.mem_of_getElem? hi)) ?_
  have hl : i < defs.length := (List.getElem?_eq_some_iff.mp hi).1
  have e := congrArg (fun l : List FV => l[i]?) hv
  unfold fvs fvsW at e
  rw [List.getElem?_append_left (by rw [List.length_map]; exact hl), List.getElem?_append_left (by rw [List.length_map]; exact hl), List.getElem?_map, List.getElem?_map, hi] at e
  exact Option.some.inj e
theorem init_at (hv : fvs K = fvsW) (i : Nat) (hi : i < 20) : fv K (initA K i) = fval "__init__" (initQ i) (iS i) ["__class__"] := by
  have e := congrArg (fun l : List FV => l[defs.length + i]?) hv
  unfold fvs fvsW at e
  rw [List.getElem?_append_right (by rw [List.length_map]; omega), List.getElem?_append_right (by rw [List.length_map]; omega), List.length_map, List.length_map, Nat.add_sub_cancel_left, List.getElem?_map, List.getElem?_map, List.getElem?_range hi] at e
  exact Option.some.inj e
theorem eqB_ok {a b : Option Bool} (e : eqB a b = true) : a = b := of_decide_eq_true e
theorem eqV_ok {a b : Option Value} (e : eqV a b = true) : a = b := of_decide_eq_true e
theorem kin_nm : ∀ i, i < 20 → kinN.getD i "" = cnm i := by decide +kernel
theorem cps_len : ∀ i, i < 20 → (cps i).length ≤ 800 := by decide +kernel
theorem xm_of (X : K.In h) (G : h.Ns mainGlobals mg) (c2 : (chk2 K).all id = true) (c4 : (chk4 K).all id = true) (c5 : (chk5 K Pg.main.file).all id = true) (hv : fvs K = fvsW) (i : Nat) (hi : i < 20) : Xm Pg K mg (cnm i) (clA K i) (cnm i) (cps i) (iS i) := by
  have c := all_flat c2 i (List.mem_range.mpr hi)
  unfold clsB1 at c
  simp only [List.all_cons, List.all_nil, id, Bool.and_eq_true, Bool.and_true] at c
  obtain ⟨k1, k2, k3, k4, k5, k6, k7, k8, k9, k10, k11, k12, k13, k14, k15, k16⟩ := c
  obtain ⟨tI, tB⟩ := txt_of i hi
  obtain ⟨oc, od, osl, kV, doc, pm, an, ct, hl, hcd⟩ := init_of (init_at hv i hi) k13
  have c4a : ∀ b ∈ chk4 K, b = true := fun b hb => List.all_eq_true.mp c4 b hb
  have op : PySem.W.nsIn K cStatics "thirdparty.any" = some none := eqO_ok (c4a _ (List.mem_append_right _ (by unfold mathB; simp)))
  have sup : PySem.W.nsIn K mainGlobals "super" = some none := eqO_ok (c4a _ (List.mem_append_left _ (List.mem_map.mpr ⟨"super", by decide +kernel, rfl⟩)))
  have hfile := all_mem c5 i (List.mem_range.mpr hi)
  have hcode : ∃ c d vs sl file tf, K.lookup (cdA K (initA K i)) = some ⟨c, d, .fields vs, sl⟩ ∧ vs[2]? = some (.str file tf) ∧ ((Pg.main.file : Str) == file) = true := by
    unfold fileB at hfile
    split at hfile
    · rename_i c d vs sl q
      split at hfile
      · rename_i g t q2
        exact ⟨c, d, vs, sl, g, t, q, q2, hfile⟩
      · cases hfile
    · cases hfile
  have hcell : ∃ c d sl, K.lookup (ccA K (initA K i)) = some ⟨c, d, .cell (some (.ref (clA K i))), sl⟩ := by
    unfold cellB at k12
    split at k12
    · rename_i c d D sl q
      have : D = clA K i := by simpa using k12
      subst this
      exact ⟨c, d, sl, q⟩
    · cases k12
  have hm : mg (cnm i) = some (.ref (clA K i)) := by
    have e := PySem.W.mg_of X G (eqO_ok k1)
    rw [e]
    unfold clA
    rw [kin_nm i hi]
  exact ⟨hm, k14, eqB_ok k15, eqV_ok k16, ⟨initA K i, ccA K (initA K i), cdA K (initA K i), (baN i).1, (baN i).2.1, (baN i).2.2.1, (baN i).2.2.2, "__init__", initQ i, bas_of i,
    ⟨k2, k3, eqO_ok k4, k5, eqO_ok k6, (fun f hf => (List.mem_cons.mp hf).elim (fun z => by rw [z]; exact eqO_ok k7.1) fun z => eqO_ok (List.all_eq_true.mp k7.2 f z)), k8, eqB_ok k9, eqB_ok k10, eqO_ok k11, op, hcell, hcode, ⟨oc, od, osl, kV, doc, pm, an, ct, hl⟩, hcd, top_super, k14, eqB_ok k15, eqV_ok k16⟩, tI, tB, sup⟩, cps_len i hi⟩
theorem cls_of (X : K.In h) (G : h.Ns mainGlobals mg) (c2 : (chk2 K).all id = true) (c3 : (chk3 K).all id = true) (c4 : (chk4 K).all id = true) (c5 : (chk5 K Pg.main.file).all id = true) (hv : fvs K = fvsW) : K1.Cls Pg K mg (clA K) := by
  have xm := xm_of X G c2 c4 c5 hv
  have c4a : ∀ b ∈ chk4 K, b = true := fun b hb => List.all_eq_true.mp c4 b hb
  have key : ∀ i, i < 20 → (clsB2 K i).all id = true := fun i hi => all_flat c3 i (List.mem_range.mpr hi)
  have parts : ∀ i, i < 20 → L2.ExcC K (clA K i) ∧ (∀ g ∈ ("code" : Str) :: cps i, PySem.W.findIn K (.ref (clA K i)) g = some none) ∧ (∀ j, j < 22 → PySem.W.kitOne K (.ref (clA K i)) (.ref (clA K j)) = some (decide (kinN.getD j "" ∈ above i))) ∧
      (∀ T ∈ ["ValueError", "LookupError", "RuntimeError", "KeyError", "IndexError"], PySem.W.kitOne K (.ref (clA K i)) (.type T) = some (decide (Str.ofString T ∈ above i))) ∧
      (∀ js : List Nat, js ∈ [[1, 2], [3, 4, 5, 6, 7], [11, 18], [15], [17], [20]] → PySem.W.exmAny K (.ref (clA K i)) (js.map fun j => .ref (clA K j)) = some (js.any fun j => decide (kinN.getD j "" ∈ above i))) := fun i hi => by
    have c := key i hi
    have cc := all_flat c2 i (List.mem_range.mpr hi)
    unfold clsB1 at cc
    simp only [List.all_cons, List.all_nil, id, Bool.and_eq_true, Bool.and_true] at cc
    obtain ⟨k1, k2, k3, k4, k5, k6, k7, k8, k9, k10, k11, k12, k13, k14, k15, k16⟩ := cc
    have mem : ∀ b ∈ clsB2 K i, b = true := fun b hb => List.all_eq_true.mp c b hb
    unfold clsB2 at mem
    have m1 := mem _ (.head _)
    have m2 := mem _ (.tail _ (.head _))
    have m3 := mem _ (.tail _ (.tail _ (.head _)))
    have m4 := mem _ (.tail _ (.tail _ (.tail _ (.head _))))
    have m5 := mem _ (.tail _ (.tail _ (.tail _ (.tail _ (.head _)))))
    have m6 := mem _ (.tail _ (.tail _ (.tail _ (.tail _ (.tail _ (.head _))))))
    have m7 := mem _ (.tail _ (.tail _ (.tail _ (.tail _ (.tail _ (.tail _ (.head _)))))))
    have m8 := mem _ (.tail _ (.tail _ (.tail _ (.tail _ (.tail _ (.tail _ (.tail _ (.head _))))))))
    have m9 := mem _ (.tail _ (.tail _ (.tail _ (.tail _ (.tail _ (.tail _ (.tail _ (.tail _ (.head _)))))))))
    have m10 := mem _ (.tail _ (.tail _ (.tail _ (.tail _ (.tail _ (.tail _ (.tail _ (.tail _ (.tail _ (.head _))))))))))
    exact ⟨⟨eqO_ok m1, eqO_ok m2, eqB_ok k15, k8, eqO_ok m3, eqO_ok m4, eqB_ok m5, eqB_ok m6⟩, fun g hg => eqO_ok (List.all_eq_true.mp m7 g hg), fun j hj => eqB_ok (List.all_eq_true.mp m8 j (List.mem_range.mpr hj)), fun T hT => eqB_ok (List.all_eq_true.mp m9 T hT), fun js hjs => eqB_ok (List.all_eq_true.mp m10 js hjs)⟩
  exact {
    xm := xm
    me := PySem.W.mg_of X G (eqO_ok (c4a (gloB K "ModelError") (List.mem_append_right _ (by unfold mathB; simp))))
    mi := PySem.W.mg_of X G (eqO_ok (c4a (gloB K "Missing") (List.mem_append_right _ (by unfold mathB; simp))))
    ec := fun i hi => (parts i hi).1
    xf := fun i hi => ⟨(parts i hi).1.hg, (parts i hi).1.hk, (parts i hi).1.hs, (parts i hi).1.hd⟩
    no := fun i hi => (parts i hi).2.1
    one := fun i hi => (parts i hi).2.2.1
    oneB := fun i hi => (parts i hi).2.2.2.1
    ex := fun i hi => (parts i hi).2.2.2.2 }
theorem free_of (X : K.In h) (G : h.Ns mainGlobals mg) (c4 : (chk4 K).all id = true) : ∀ x ∈ freeN, mg x = none := fun x hx =>
  PySem.W.mg_none_of X G (eqO_ok (List.all_eq_true.mp c4 _ (List.mem_append_left _ (List.mem_map.mpr ⟨x, hx, rfl⟩))))
theorem bl_of (X : K.In h) (G : h.Ns mainGlobals mg) (c4 : (chk4 K).all id = true) : K1.Bl mg := by
  have f := free_of X G c4
  have c4a : ∀ b ∈ chk4 K, b = true := fun b hb => List.all_eq_true.mp c4 b hb
  exact ⟨f _ (by decide +kernel), f _ (by decide +kernel), f _ (by decide +kernel), f _ (by decide +kernel), f _ (by decide +kernel), f _ (by decide +kernel), f _ (by decide +kernel), f _ (by decide +kernel), f _ (by decide +kernel), f _ (by decide +kernel), f _ (by decide +kernel), f _ (by decide +kernel), f _ (by decide +kernel), f _ (by decide +kernel),
    PySem.W.mg_of X G (eqO_ok (c4a _ (List.mem_append_right _ (.head _)))), PySem.W.mg_of X G (eqO_ok (c4a _ (List.mem_append_right _ (.tail _ (.head _)))))⟩
theorem bt_of (X : K.In h) (G : h.Ns mainGlobals mg) (c4 : (chk4 K).all id = true) : K1.Bt mg := ⟨fun T hT => free_of X G c4 _ (by
  have : ∀ T ∈ ["ValueError", "LookupError", "RuntimeError", "KeyError", "IndexError"], Str.ofString T ∈ freeN := by decide +kernel
  exact this T hT)⟩
theorem most_of (X : K.In h) (G : h.Ns mainGlobals mg) (c4 : (chk4 K).all id = true) : ∃ t, mg "MOST_DIGITS" = some (.int 60 t) := by
  have c := List.all_eq_true.mp c4 _ (List.mem_append_right _ (.tail _ (.tail _ (.head _))))
  simp only [id] at c
  split at c
  · rename_i j t q
    have : j = 60 := of_decide_eq_true c
    subst this
    exact ⟨t, PySem.W.mg_of X G q⟩
  · cases c
theorem keys_of {P : Params} : ∀ {es : List DictEntry} {xs : List Str}, es.map (fun e => ((match e.key with
      | .str x _ => some x
      | _ => none : Option Str), e.hash)) = xs.map (fun x => (some x, PyData.keyHash P x)) → PySem.W.KeysLit P es
  | [], _, _ => trivial
  | e :: es, [], h => by simp at h
  | e :: es, x :: xs, h => by
    rw [List.map_cons, List.map_cons] at h
    obtain ⟨h1, h2⟩ := List.cons.inj h
    obtain ⟨a, b⟩ := Prod.mk.inj h1
    refine ⟨?_, keys_of h2⟩
    cases hk : e.key with
    | str y t =>
      rw [hk] at a
      have a : y = x := Option.some.inj a
      exact ⟨y, t, rfl, a ▸ b⟩
    | _ => rw [hk] at a; cases a
theorem bds_of (X : K.In h) (G : h.Ns mainGlobals mg) (c4 : (chk4 K).all id = true) (hb : bndV K = bndW w) : K1.Bds K w mg (ga K "BOUNDS") := by
  have c4a : ∀ b ∈ mathB K, b = true := fun b hb => List.all_eq_true.mp c4 b (List.mem_append_right _ hb)
  unfold mathB at c4a
  have m1 := c4a _ (.tail _ (.tail _ (.tail _ (.head _))))
  have m2 := c4a _ (.tail _ (.tail _ (.tail _ (.tail _ (.tail _ (.tail _ (.head _)))))))
  have m3 := c4a _ (.tail _ (.tail _ (.tail _ (.tail _ (.tail _ (.tail _ (.tail _ (.head _))))))))
  refine ⟨PySem.W.mg_of X G (eqO_ok m1), ?_, ?_⟩
  · unfold bndV bndW at hb
    cases q : K.lookup (ga K "BOUNDS") with
    | none => rw [q] at hb; cases hb
    | some o =>
      obtain ⟨cl, od, dt, sl⟩ := o
      rw [q] at hb
      cases cl with
      | type c =>
        cases od with
        | none =>
          cases dt with
          | dict es n =>
            cases q2 : decide (c = "dict") && sl.isEmpty with
            | false =>
              simp only [q2] at hb
              cases hb
            | true =>
              simp only [q2] at hb
              obtain ⟨e1, e2⟩ := ba q2
              have e1 : c = "dict" := of_decide_eq_true e1
              have e2 : sl = #[] := Array.isEmpty_iff.mp e2
              subst e1 e2
              exact ⟨es, n, q, keys_of (Option.some.inj hb), by simpa using m2⟩
          | _ => cases hb
        | some a => cases dt <;> cases hb
      | _ => cases od <;> cases dt <;> cases hb
  · split at m3
    · rename_i j t q
      have : j = 12000 := of_decide_eq_true m3
      subst this
      exact ⟨t, q⟩
    · cases m3
theorem nod_of (X : K.In base) (c4 : (chk4 K).all id = true) : base.NoDigits := by
  have c4a : ∀ b ∈ mathB K, b = true := fun b hb => List.all_eq_true.mp c4 b (List.mem_append_right _ hb)
  unfold mathB at c4a
  have m := c4a _ (.tail _ (.tail _ (.tail _ (.tail _ (.tail _ (.tail _ (.tail _ (.tail _ (.tail _ (.head _))))))))))
  split at m
  · rename_i a b es ep sl q
    have key := List.all_eq_true.mp m
    refine ⟨nsFind es, ⟨_, es, ep, X _ _ q, rfl, fun e he => ?_, fun _ => rfl⟩, ?_⟩
    · have := (ba (key e (Array.mem_toList_iff.mpr he))).1
      split at this
      · rename_i n t hk
        exact ⟨n, t, hk⟩
      · cases this
    · unfold nsFind findBy
      have : es.find? (fun e => e.key.isStr "sys.int_max_str_digits") = none := by
        rw [Array.find?_eq_none]
        intro e he
        have := (ba (key e (Array.mem_toList_iff.mpr he))).2
        simpa using this
      rw [this]
      rfl
  · cases m
end
end Hk


set_option Elab.async false
set_option linter.all false
set_option maxRecDepth 100000
set_option maxHeartbeats 2000000
set_option exponentiation.threshold 100000
/-! H7: the defs joined. -/
namespace Hk
open PySem PySem.Spec PyProof.Rows L2 HM TX XN K1 L2H LM L2N LamX
open He (ga ma)
section
variable {P : Program} {w : World} {K : PySem.W.Frag} {mg : Str → Option Value} {base : Heap} {x : Str} {st : Stmt} {N ps : List Str} {k j : Nat} {W : Ct}
theorem _root_.HM.BodyOk.mono {qual : Str} (h : BodyOk P w K mg base N ps qual st j W) (hk : j ≤ k) : BodyOk P w K mg base N ps qual st k W := fun f cdv A outer s H E ds M R Z hr => h f cdv A outer s H E ds M R Z (hr.mono hk)
abbrev BindOk (st : Stmt) (ps : List Str) : Prop := ∀ (y qual : Str) (kV doc pm : Value) (an : Option Addr) (cdv ct : Value) (us : List Value), us.length = ps.length → bindArgs (PySem.W.fnOf y qual (defArgs st) (defBody st) (defScope st) .none kV doc pm an cdv ct) ⟨us, []⟩ = pure (ps.zip us)
theorem FunC.fun (F : FunC K mg x st) : ∃ fd, Fun K x x st (ga K x) fd := by
  obtain ⟨oc, od, osl, kV, doc, pm, an, ct, hl, hcd⟩ := F.ex
  exact ⟨_, ⟨oc, od, kV, doc, pm, an, _, ct, osl, rfl, hl, hcd⟩, F.kp⟩
theorem df_of (F : FunC K mg x st) (S : FnScope N ps (defScope st)) (hb : BindOk st ps) (hlen : ∀ ds M R Z, W ds M R Z → ds.length = ps.length) (h : BodyOk P w K mg base N ps x st k W) : Df P w K mg base x (k + 1) W := by
  obtain ⟨fd, Fn⟩ := F.fun
  exact ⟨ga K x, F.mg, F.kp, fn_body Fn S (Fn.binds (hb x x)) hlen h⟩
theorem dfK_of (F : FunC K mg x st) (S : FnScope N ps (defScope st)) (hlen : ∀ ds M R Z, W ds M R Z → ds.length = ps.length) (h : BodyOk P w K mg base N ps x st k W) : DfK P w K mg base x ps st (k + 1) W := by
  obtain ⟨fd, Fn⟩ := F.fun
  exact ⟨ga K x, fd, x, x, F.mg, F.kp, Fn, fn_okN Fn S hlen h⟩
theorem dfH_of {W : Addr × Obj → Ct} (F : FunC K mg x st) (S : FnScope N ps (defScope st)) (hb : BindOk st ps) (hlen : ∀ p ds M R Z, W p ds M R Z → ds.length = ps.length) (h : BodyOkH P w K mg base N ps x st k W) : DfH P w K mg base x (k + 1) W := by
  obtain ⟨fd, Fn⟩ := F.fun
  exact ⟨ga K x, F.mg, F.kp, fn_bodyH Fn S (Fn.binds (hb x x)) hlen h⟩
theorem dfS_of {pv : Str} (F : FunC K mg x st) (S : FnScope N [pv] (defScope st)) (hb : ∀ (y q : Str) (kV doc pm : Value) (an : Option Addr) (cdv ct : Value) (rest : List Value), bindArgs (PySem.W.fnOf y q (defArgs st) (defBody st) (defScope st) .none kV doc pm an cdv ct) ⟨rest, []⟩ = (newTuple rest >>= fun t => pure [(pv, t)]))
    (hlen : ∀ ds M R Z, W ds M R Z → ds.length = 1) (hmax : ∀ ds M R Z, W [.tup ds] M R Z → ds.length ≤ 100000) (h : BodyOk P w K mg base N [pv] x st k W) : Df P w K mg base x (k + 1) (star W) := by
  obtain ⟨fd, Fn⟩ := F.fun
  exact ⟨ga K x, F.mg, F.kp, fn_bodyStar Fn S hb hlen hmax h⟩
theorem df_zero (F : FunC K mg x st) : Df P w K mg base x 0 (cLike 0) := ⟨ga K x, F.mg, F.kp, fun A outer s H us vs Q E hr e0 rv ⟨_, _, _, _, _, _, _, ⟨_, _, z, _⟩, _⟩ => by cases z⟩
theorem okC_of {c : Addr} {qual : Str} {f : Addr} {oc : Value} {od an : Option Addr} {osl : Array (Option Value)} {kV doc pm ct : Value} (lk : K.lookup f = some ⟨oc, od, .func (PySem.W.fnOf x qual (defArgs st) (defBody st) (defScope st) .none kV doc pm an (.ref c) ct), osl⟩) (hcd : PySem.W.codeIn K (.ref c) qual = true)
    (S : FnScope N ps (defScope st)) (hlen : ∀ ds M R Z, W ds M R Z → ds.length = ps.length) (h : BodyOkC P w K mg base N ps qual st k c W) : FnOk P w K mg base (L2N.CX P w) (k + 1) f (PySem.W.fnOf x qual (defArgs st) (defBody st) (defScope st) .none kV doc pm an (.ref c) ct) ps (spC K W) := by
  refine fn_of lk hcd S (fun vs H Q E hs => ?_) fun A outer s H vs Q E hr hs => ⟨_, pss_w, ?_⟩
  · obtain ⟨F', M, ds, R, Z, _, r, hw, _⟩ := hs
    rw [r.len]
    exact hlen ds M R Z hw
  · obtain ⟨F', M, ds, R, Z, s0, r, hw, hq, he⟩ := hs
    have hl := hlen ds M R Z hw
    have z := h f A outer s H E ds M R Z hr hl hw ⟨F', H, dom M⟩ (L2.start N vs) H { nx := fun _ H' => Q .non H', rt := Q }
    refine z ⟨fun G' M' σ' H' ⟨N', M2, e, hd, hR⟩ hN => ?_, fun d M' v F1 H1 ⟨N', M2, e, hd, hR⟩ hm g s1 rv => ?_, fun _ _ _ _ z _ => z.elim, fun _ _ _ _ z _ => z.elim⟩ ?_ ⟨F', Gr.refl _ _ _, s0, ?_, fun a ha => .inl ha⟩
    · obtain ⟨F1, g, s1, _, _⟩ := hN
      subst e
      exact hq .non M2 .non F1 H' hR hd g s1.drop rfl
    · subst e
      exact hq d M2 v F1 H1 hR hd g s1.drop rv
    · refine ⟨fun cls d _ H => E cls d H, L2N.takes_of rfl rfl rfl rfl, fun G' C ks fs M' dd ws σ' F1 H1 ⟨N', M2, e, hd, hZ⟩ hm g s1 _ h1 h2 h3 => ?_⟩
      subst e
      exact he C ks fs M2 dd ws F1 H1 hZ hd g s1.drop h1 h2 h3
    · unfold L2.start
      rw [r.len]
      exact RepS.start r _
theorem dfC_of (F : FunC K mg x st) (S : FnScope N ps (defScope st)) (hb : BindOk st ps) (hlen : ∀ ds M R Z, W ds M R Z → ds.length = ps.length) (h : BodyOkC P w K mg base N ps x st k (cdA K (ga K x)) W) : Df P w K mg base x (k + 1) W := by
  obtain ⟨oc, od, osl, kV, doc, pm, an, ct, hl, hcd⟩ := F.ex
  have O := okC_of (P := P) (w := w) (mg := mg) (base := base) (k := k) hl hcd S hlen h
  refine ⟨ga K x, F.mg, F.kp, fun A outer s H us vs Q E hr e0 rv hs => ?_⟩
  exact (FnOk.raw (dvs := []) O (.all (hb x x kV doc pm an _ ct)) .nil) A outer s H us vs Q E hr e0 rv (by show spC K W (vs ++ []) H Q E; rw [List.append_nil]; exact hs)
end
theorem joined {P : Program} {w : World} {K : PySem.W.Frag} {mg : Str → Option Value} {base : Heap} {cl : Nat → Addr} (F : ∀ (x : Str) (st : Stmt) (i : Nat), defs[i]? = some (x, st) → FunC K mg x st) (B : Bl mg) (E : Bt mg) (C : K1.Cls P K mg cl) {bd : Addr} (Bd0 : Bds K w mg bd) (most : ∃ t, mg "MOST_DIGITS" = some (.int 60 t)) (hdig : base.NoDigits)
    (TB : ∀ x ∈ lamN, TabB base mg (cdA K (ga K x)) (ptA K (cdA K (ga K x)))) : BodyOk P w K mg base N_law ["script"] "law" s_law 14 (cLaw (ptA K (cdA K (ga K "_law_pairs"))) (ptA K (cdA K (ga K "_law_wrong"))) (ptA K (cdA K (ga K "_law_reads"))) (ptA K (cdA K (ga K "_law_digits_bound")))) := by
  have Dis_number : Df P w K mg base "is_number" 1 cNum := df_of (F _ _ 1 rfl) sc_is_number (fun _ _ _ _ _ _ _ _ us h => match us, h with | [u0], _ => rfl) (fun ds M R Z ⟨_, e, _⟩ => by rw [e]; rfl) (b_is_number B)
  have Dis_fraction : Df P w K mg base "is_fraction" 2 cIsFr := df_of (F _ _ 2 rfl) sc_is_fraction (fun _ _ _ _ _ _ _ _ us h => match us, h with | [u0], _ => rfl) (fun ds M R Z ⟨_, e, _⟩ => by rw [e]; rfl) (b_is_fraction B Dis_number)
  have Dcheck : Df P w K mg base "_check" 4 (cCheck cl) := df_of (F _ _ 3 rfl) sc_check (fun _ _ _ _ _ _ _ _ us h => match us, h with | [u0], _ => rfl) (fun ds M R Z ⟨_, e, _⟩ => by rw [e]; rfl) (b_check C Dis_fraction)
  have Dreduced : Df P w K mg base "_reduced" 1 cRed := df_of (F _ _ 4 rfl) sc_reduced (fun _ _ _ _ _ _ _ _ us h => match us, h with | [u0], _ => rfl) (fun ds M R Z ⟨_, e, _⟩ => by rw [e]; rfl) (b_reduced B)
  have Dlimit : Df P w K mg base "limit" 1 cLimit := df_of (F _ _ 0 rfl) sc_limit (fun _ _ _ _ _ _ _ _ us h => match us, h with | [u0], _ => rfl) (fun ds M R Z ⟨e, _⟩ => by rw [e]; rfl) (b_limit B Bd0)
  have Dis_count : Df P w K mg base "_is_count" 1 cCount := df_of (F _ _ 5 rfl) sc_is_count (fun _ _ _ _ _ _ _ _ us h => match us, h with | [u0, u1], _ => rfl) (fun ds M R Z ⟨_, _, e, _⟩ => by rw [e]; rfl) (b_is_count B most)
  have Dfraction_or_none : Df P w K mg base "fraction_or_none" 2 cFon := df_of (F _ _ 6 rfl) sc_fraction_or_none (fun _ _ _ _ _ _ _ _ us h => match us, h with | [u0], _ => rfl) (fun ds M R Z ⟨_, e, _⟩ => by rw [e]; rfl) (b_fraction_or_none B Dis_count Dreduced)
  have Kread_fraction : DfK P w K mg base "read_fraction" ["text"] s_read_fraction 5 (cReadF cl) := dfK_of (F _ _ 7 rfl) sc_read_fraction (fun ds M R Z ⟨_, e, _⟩ => by rw [e]; rfl) ((b_read_fraction B C Dfraction_or_none).mono (by decide))
  have Dread_fraction : Df P w K mg base "read_fraction" 5 (cReadF cl) := Kread_fraction.df (fun _ _ _ _ _ _ _ _ us h => match us, h with | [u0], _ => rfl)
  have Klowest : DfK P w K mg base "lowest" ["value"] s_lowest 5 (cLowest cl) := dfK_of (F _ _ 8 rfl) sc_lowest (fun ds M R Z ⟨_, e, _⟩ => by rw [e]; rfl) (b_lowest C Dcheck Dreduced)
  have Dlowest : Df P w K mg base "lowest" 5 (cLowest cl) := Klowest.df (fun _ _ _ _ _ _ _ _ us h => match us, h with | [u0], _ => rfl)
  have Kfraction_text : DfK P w K mg base "fraction_text" ["value"] s_fraction_text 5 (cText cl) := dfK_of (F _ _ 9 rfl) sc_fraction_text (fun ds M R Z ⟨_, e, _⟩ => by rw [e]; rfl) (b_fraction_text B C hdig Dcheck Dreduced Dlimit)
  have Dfraction_text : Df P w K mg base "fraction_text" 5 (cText cl) := Kfraction_text.df (fun _ _ _ _ _ _ _ _ us h => match us, h with | [u0], _ => rfl)
  have Dplus : Df P w K mg base "plus" 5 (star (cPlus cl)) := dfS_of (F _ _ 10 rfl) sc_plus (fun _ _ _ _ _ _ _ _ rest => match rest with | [] => rfl | _ :: _ => rfl) (fun ds M R Z ⟨_, e, _⟩ => by rw [e]; rfl) (fun ds M R Z ⟨l, e, h5, _⟩ => by cases e; omega) (b_plus B C Dcheck Dreduced)
  have Dtimes : Df P w K mg base "times" 5 (star (cTimes cl)) := dfS_of (F _ _ 11 rfl) sc_times (fun _ _ _ _ _ _ _ _ rest => match rest with | [] => rfl | _ :: _ => rfl) (fun ds M R Z ⟨_, e, _⟩ => by rw [e]; rfl) (fun ds M R Z ⟨l, e, h5, _⟩ => by cases e; omega) (b_times C Dcheck Dreduced)
  have Kquotient : DfK P w K mg base "quotient" ["one", "other"] s_quotient 5 (cQuot cl) := dfK_of (F _ _ 12 rfl) sc_quotient (fun ds M R Z ⟨_, _, e, _⟩ => by rw [e]; rfl) (b_quotient C Dcheck Dreduced)
  have Dquotient : Df P w K mg base "quotient" 5 (cQuot cl) := Kquotient.df (fun _ _ _ _ _ _ _ _ us h => match us, h with | [u0, u1], _ => rfl)
  have Kapart : DfK P w K mg base "apart" ["one", "other"] s_apart 5 (cApart cl) := dfK_of (F _ _ 13 rfl) sc_apart (fun ds M R Z ⟨_, _, e, _⟩ => by rw [e]; rfl) (b_apart B C Dcheck Dreduced)
  have Dapart : Df P w K mg base "apart" 5 (cApart cl) := Kapart.df (fun _ _ _ _ _ _ _ _ us h => match us, h with | [u0, u1], _ => rfl)
  have Dpower : Df P w K mg base "_power" 1 cPow := df_of (F _ _ 14 rfl) sc_power (fun _ _ _ _ _ _ _ _ us h => match us, h with | [u0, u1], _ => rfl) (fun ds M R Z ⟨_, _, e, _⟩ => by rw [e]; rfl) b_power
  have Kraised : DfK P w K mg base "raised" ["one", "n"] s_raised 5 (cRaised cl) := dfK_of (F _ _ 15 rfl) sc_raised (fun ds M R Z ⟨_, _, e, _⟩ => by rw [e]; rfl) (b_raised C Dcheck Dreduced Dis_number Dpower)
  have Draised : Df P w K mg base "raised" 5 (cRaised cl) := Kraised.df (fun _ _ _ _ _ _ _ _ us h => match us, h with | [u0, u1], _ => rfl)
  have Kis_less : DfK P w K mg base "is_less" ["one", "other"] s_is_less 5 (cLess cl) := dfK_of (F _ _ 16 rfl) sc_is_less (fun ds M R Z ⟨_, _, e, _⟩ => by rw [e]; rfl) (b_is_less C Dcheck Dreduced)
  have Dis_less : Df P w K mg base "is_less" 5 (cLess cl) := Kis_less.df (fun _ _ _ _ _ _ _ _ us h => match us, h with | [u0, u1], _ => rfl)
  have Kleast_common : DfK P w K mg base "least_common" ["numbers"] s_least_common 5 cLeast := dfK_of (F _ _ 17 rfl) sc_least_common (fun ds M R Z ⟨_, e, _⟩ => by rcases e with e | e <;> (rw [e]; rfl)) ((b_least B).mono (by decide))
  have Dleast_common : Df P w K mg base "least_common" 5 cLeast := Kleast_common.df (fun _ _ _ _ _ _ _ _ us h => match us, h with | [u0], _ => rfl)
  have DLdraw : Df P w K mg base "_law_draw" 1 cDraw := df_of (F _ _ 19 rfl) sc_Ldraw (fun _ _ _ _ _ _ _ _ us h => match us, h with | [u0, u1], _ => rfl) (fun ds M R Z ⟨_, _, _, _, e, _⟩ => by rw [e]; rfl) (b_Ldraw B)
  have DLof : Df P w K mg base "_law_of" 2 cOf := df_of (F _ _ 20 rfl) sc_Lof (fun _ _ _ _ _ _ _ _ us h => match us, h with | [u0, u1], _ => rfl) (fun ds M R Z ⟨_, _, _, _, _, e, _⟩ => by rw [e]; rfl) (b_Lof B DLdraw)
  have DLodd : Df P w K mg base "_law_odd" 3 cOdd := df_of (F _ _ 28 rfl) sc_Lodd (fun _ _ _ _ _ _ _ _ us h => match us, h with | [u0], _ => rfl) (fun ds M R Z ⟨_, _, _, e, _⟩ => by rw [e]; rfl) (b_Lodd B DLof)
  have DLfraction : Df P w K mg base "_law_fraction" 2 cFrac := df_of (F _ _ 39 rfl) sc_Lfraction (fun _ _ _ _ _ _ _ _ us h => match us, h with | [u0], _ => rfl) (fun ds M R Z ⟨_, _, _, e, _⟩ => by rw [e]; rfl) (b_Lfraction B DLdraw)
  have DLlow : Df P w K mg base "_law_low" 1 cLow := df_of (F _ _ 29 rfl) sc_Llow (fun _ _ _ _ _ _ _ _ us h => match us, h with | [u0, u1], _ => rfl) (fun ds M R Z ⟨_, _, e, _⟩ => by rw [e]; rfl) (b_Llow B)
  have DLadded : Df P w K mg base "_law_added" 2 (cPair2 4000 fun p q => pr (addN p q)) := df_of (F _ _ 30 rfl) sc_Ladded (fun _ _ _ _ _ _ _ _ us h => match us, h with | [u0, u1], _ => rfl) (fun ds M R Z ⟨_, _, e, _⟩ => by rw [e]; rfl) (b_Ladded DLlow)
  have DLby : Df P w K mg base "_law_by" 2 (cPair2 4000 fun p q => pr (byN p q)) := df_of (F _ _ 32 rfl) sc_Lby (fun _ _ _ _ _ _ _ _ us h => match us, h with | [u0, u1], _ => rfl) (fun ds M R Z ⟨_, _, e, _⟩ => by rw [e]; rfl) (b_Lby DLlow)
  have DLgap : Df P w K mg base "_law_gap" 2 (cPair2 4000 fun p q => pr (gapN p q)) := df_of (F _ _ 41 rfl) sc_Lgap (fun _ _ _ _ _ _ _ _ us h => match us, h with | [u0, u1], _ => rfl) (fun ds M R Z ⟨_, _, e, _⟩ => by rw [e]; rfl) (b_Lgap B DLlow)
  have DLless : Df P w K mg base "_law_less" 1 (cPair2 4000 fun p q => .bl (decide (p.1 * q.2 < q.1 * p.2))) := df_of (F _ _ 40 rfl) sc_Lless (fun _ _ _ _ _ _ _ _ us h => match us, h with | [u0, u1], _ => rfl) (fun ds M R Z ⟨_, _, e, _⟩ => by rw [e]; rfl) b_Lless
  have DLtotal : Df P w K mg base "_law_total" 3 cTotal := df_of (F _ _ 31 rfl) sc_Ltotal (fun _ _ _ _ _ _ _ _ us h => match us, h with | [u0], _ => rfl) (fun ds M R Z ⟨_, e, _⟩ => by rw [e]; rfl) (b_Ltotal DLadded)
  have DLword : Df P w K mg base "_law_word" 1 cWord := df_of (F _ _ 33 rfl) sc_Lword (fun _ _ _ _ _ _ _ _ us h => match us, h with | [u0], _ => rfl) (fun ds M R Z ⟨_, e, _⟩ => by rw [e]; rfl) (b_Lword B hdig)
  have DLnumber : Df P w K mg base "_law_number" 1 cNum := df_of (F _ _ 36 rfl) sc_Lnumber (fun _ _ _ _ _ _ _ _ us h => match us, h with | [u0], _ => rfl) (fun ds M R Z ⟨_, e, _⟩ => by rw [e]; rfl) (b_Lnumber B)
  have DLis_fraction : Df P w K mg base "_law_is_fraction" 2 cIsFr := df_of (F _ _ 37 rfl) sc_Lis_fraction (fun _ _ _ _ _ _ _ _ us h => match us, h with | [u0], _ => rfl) (fun ds M R Z ⟨_, e, _⟩ => by rw [e]; rfl) (b_Lis_fraction B DLnumber)
  have DLfixed : Df P w K mg base "_law_fixed" 2 cFixed := df_of (F _ _ 38 rfl) sc_Lfixed (fun _ _ _ _ _ _ _ _ us h => match us, h with | [u0], _ => rfl) (fun ds M R Z ⟨_, e, _⟩ => by rw [e]; rfl) (b_Lfixed DLnumber DLlow)
  have DLraised : Df P w K mg base "_law_raised" 1 cLraised := df_of (F _ _ 42 rfl) sc_Lraised (fun _ _ _ _ _ _ _ _ us h => match us, h with | [u0, u1], _ => rfl) (fun ds M R Z ⟨_, _, e, _⟩ => by rw [e]; rfl) (b_Lraised B)
  have DLdigits : Df P w K mg base "_law_digits" 1 cDig := df_of (F _ _ 34 rfl) sc_Ldigits (fun _ _ _ _ _ _ _ _ us h => match us, h with | [u0, u1], _ => rfl) (fun ds M R Z ⟨_, e, _⟩ => by rw [e]; rfl) (b_Ldigits B)
  have DLread : Df P w K mg base "_law_read" 2 cLread := df_of (F _ _ 35 rfl) sc_Lread (fun _ _ _ _ _ _ _ _ us h => match us, h with | [u0], _ => rfl) (fun ds M R Z ⟨_, e, _⟩ => by rw [e]; rfl) (b_Lread B DLdigits DLlow)
  have DLfigures : Df P w K mg base "_law_figures" 2 cFig := df_of (F _ _ 47 rfl) sc_Lfigures (fun _ _ _ _ _ _ _ _ us h => match us, h with | [u0, u1], _ => rfl) (fun ds M R Z ⟨_, _, _, _, e, _⟩ => by rw [e]; rfl) (b_Lfigures B hdig DLdraw)
  have DLnear : Df P w K mg base "_law_near" 3 cNear := df_of (F _ _ 48 rfl) sc_Lnear (fun _ _ _ _ _ _ _ _ us h => match us, h with | [u0], _ => rfl) (fun ds M R Z ⟨_, _, _, e, _⟩ => by rw [e]; rfl) (b_Lnear B hdig DLdraw DLfigures DLof)
  have DLkin : Df P w K mg base "_law_kin" 1 (cKin cl) := df_of (F _ _ 22 rfl) sc_Lkin (fun _ _ _ _ _ _ _ _ us h => match us, h with | [u0], _ => rfl) (fun ds M R Z ⟨_, _, _, e, _⟩ => by rw [e]; rfl) (b_Lkin B E C)
  have DLabove : Df P w K mg base "_law_above" 1 cAbove := df_of (F _ _ 23 rfl) sc_Labove (fun _ _ _ _ _ _ _ _ us h => match us, h with | [u0], _ => rfl) (fun ds M R Z ⟨_, _, e, _⟩ => by rw [e]; rfl) b_Labove
  have HLkin : DfH P w K mg base "_law_kin" 1 (cKinH cl) := dfH_of (F _ _ 22 rfl) sc_Lkin (fun _ _ _ _ _ _ _ _ us h => match us, h with | [u0], _ => rfl) (fun p ds M R Z ⟨_, _, _, _, e, _⟩ => by rw [e]; rfl) (b_LkinH B E C)
  have HLabove : DfH P w K mg base "_law_above" 1 (fun _ => cAbove) := dfH_of (F _ _ 23 rfl) sc_Labove (fun _ _ _ _ _ _ _ _ us h => match us, h with | [u0], _ => rfl) (fun p ds M R Z ⟨_, _, e, _⟩ => by rw [e]; rfl) b_LaboveH
  have HLcaught : DfH P w K mg base "_law_caught" 2 (cCaught cl) := dfH_of (F _ _ 24 rfl) sc_Lcaught (fun _ _ _ _ _ _ _ _ us h => match us, h with | [u0, u1, u2], _ => rfl) (fun p ds M R Z ⟨_, _, _, _, _, e, _⟩ => by rw [e]; rfl) (b_LcaughtH B HLkin HLabove)
  have DLtried : Df P w K mg base "_law_tried" 8 (cTried cl P w K mg base 7) := df_of (F _ _ 26 rfl) sc_Ltried (fun _ _ _ _ _ _ _ _ us h => match us, h with | [u0], _ => rfl) (fun ds M R Z ⟨_, _, _, _, _, _, e, _⟩ => by rw [e]; rfl) (b_Ltried (k := 5) B C HLcaught)
  have DL0 : ∀ n, Df P w K mg base "_law_like" n (cLike n) := fun n => by
    induction n with
    | zero => exact df_zero (F _ _ 21 rfl)
    | succ n ih => exact df_of (F _ _ 21 rfl) sc_Llike (fun _ _ _ _ _ _ _ _ us h => match us, h with | [u0, u1], _ => rfl) (fun ds M R Z ⟨_, e, _⟩ => by rw [e]; rfl) (b_Llike B (Nat.le_refl n) ih)
  have DLlike := DL0 12
  have DLrefused : Df P w K mg base "_law_refused" 13 (cRefused cl P w K mg base) := df_of (F _ _ 27 rfl) sc_Lrefused (fun _ _ _ _ _ _ _ _ us h => match us, h with | [u0, u1], _ => rfl) (fun ds M R Z ⟨_, _, _, _, _, _, e, _⟩ => by rw [e]; rfl) (b_Lrefused DLtried DLlike)
  have Pr : Prg P w K mg base cl := ⟨Dlowest, Dfraction_text, Dplus, Dtimes, Dquotient, Dapart, Dis_less, Draised, Dread_fraction, Dleast_common⟩
  have Pk : PrgK P w K mg base cl := ⟨Klowest, Kfraction_text, Kquotient, Kapart, Kis_less, Kraised, Kread_fraction, Kleast_common⟩
  have DLcall : Df P w K mg base "_law_call" 6 (cCall cl) := df_of (F _ _ 45 rfl) sc_Lcall (fun _ _ _ _ _ _ _ _ us h => match us, h with | [u0, u1, u2, u3], _ => rfl) (fun ds M R Z ⟨_, _, _, _, e, _⟩ => by rw [e]; rfl) (b_Lcall Pr)
  have DLsums : Df P w K mg base "_law_sums" 13 cSums := df_of (F _ _ 43 rfl) sc_Lsums (fun _ _ _ _ _ _ _ _ us h => match us, h with | [u0, u1], _ => rfl) (fun ds M R Z ⟨_, _, _, _, _, _, e, _⟩ => by rw [e]; rfl) (b_Lsums B Pr DLfixed DLtotal DLby DLlike)
  have DLpairs : Df P w K mg base "_law_pairs" 14 (cPairs (ptA K (cdA K (ga K "_law_pairs")))) := dfC_of (F _ _ 44 rfl) sc_Lpairs (fun _ _ _ _ _ _ _ _ us h => match us, h with | [u0, u1], _ => rfl) (fun ds M R Z ⟨_, _, _, _, e, _⟩ => by rw [e]; rfl) (b_Lpairs (TB _ (by decide +kernel)) B C Pr Pk DLdraw DLfixed DLword DLgap DLless DLraised DLlow DLrefused DLlike)
  have DLwrong : Df P w K mg base "_law_wrong" 14 (cWrong (ptA K (cdA K (ga K "_law_wrong")))) := dfC_of (F _ _ 46 rfl) sc_Lwrong (fun _ _ _ _ _ _ _ _ us h => match us, h with | [u0], _ => rfl) (fun ds M R Z ⟨_, _, _, e, _⟩ => by rw [e]; rfl) (b_Lwrong (TB _ (by decide +kernel)) B C Pr DLdraw DLodd DLfraction DLnumber DLis_fraction DLfixed DLword DLtotal DLby DLcall DLgap DLless DLraised DLlow DLrefused DLlike)
  have DLreads : Df P w K mg base "_law_reads" 14 (cReads (ptA K (cdA K (ga K "_law_reads")))) := dfC_of (F _ _ 49 rfl) sc_Lreads (fun _ _ _ _ _ _ _ _ us h => match us, h with | [u0], _ => rfl) (fun ds M R Z ⟨_, _, _, e, _⟩ => by rw [e]; rfl) (b_Lreads (TB _ (by decide +kernel)) B Pr Pk DLodd DLnear DLread DLrefused DLlike)
  have DLdigits_bound : Df P w K mg base "_law_digits_bound" 14 (cDigB (ptA K (cdA K (ga K "_law_digits_bound")))) := dfC_of (F _ _ 51 rfl) sc_Ldigits_bound (fun _ _ _ _ _ _ _ _ us h => match us, h with | [u0], _ => rfl) (fun ds M R Z ⟨_, _, _, e, _⟩ => by rw [e]; rfl) (b_Ldigits_bound (TB _ (by decide +kernel)) B hdig Pr DLdraw DLrefused DLlike)
  have DLcommon : Df P w K mg base "_law_common" 13 cCommon := df_of (F _ _ 50 rfl) sc_Lcommon (fun _ _ _ _ _ _ _ _ us h => match us, h with | [u0], _ => rfl) (fun ds M R Z ⟨_, _, _, e, _⟩ => by rw [e]; rfl) (b_Lcommon B Pr Pk DLdraw DLlow DLlike)
  have DLclassed : Df P w K mg base "_law_classed" 13 cClassed := df_of (F _ _ 53 rfl) sc_Lclassed (fun _ _ _ _ _ _ _ _ us h => match us, h with | [u0, u1], _ => rfl) (fun ds M R Z ⟨_, _, e, _⟩ => by rw [e]; rfl) (b_Lclassed B C DLkin DLabove DLlike)
  have DLkept : Df P w K mg base "_law_kept" 14 cKept := df_of (F _ _ 52 rfl) sc_Lkept (fun _ _ _ _ _ _ _ _ us h => match us, h with | [u0], _ => rfl) (fun ds M R Z ⟨_, _, _, e, _⟩ => by rw [e]; rfl) (b_Lkept B C DLodd DLclassed DLlike)
  have DLby_base : Df P w K mg base "_law_by_base" 6 cBase := df_of (F _ _ 54 rfl) sc_Lby_base (fun _ _ _ _ _ _ _ _ us h => match us, h with | [], _ => rfl) (fun ds M R Z ⟨e, _⟩ => by rw [e]; rfl) (b_Lby_base B C Pr)
  have Db : DfBox P w K mg base := by
    have Fb := F _ _ 18 rfl
    obtain ⟨fd, Fn⟩ := Fb.fun
    exact ⟨_, Fb.mg, Fb.kp, fn_box B Fn (Fn.binds fun _ _ _ _ _ _ us h => match us, h with | [u0], _ => rfl)⟩
  exact b_law B Db DLdraw DLfraction DLsums DLpairs DLwrong DLreads DLcommon DLkept DLby_base DLdigits_bound
end Hk


set_option Elab.async false
set_option linter.all false
set_option maxRecDepth 100000
set_option maxHeartbeats 2000000
set_option exponentiation.threshold 100000
/-! H8: the end. -/
namespace Hk
open PySem PySem.Spec PyProof.Rows L2 HM TX XN K1 L2H LM L2N LamX
open He (ga ma)
theorem walk_ofTE {l : PySem.W.OpenLaw} {n k : Nat} {q : Program} {loose : List Str} {XP : (Str → Option Value) → Heap → Prop} {YP : World → Heap → Prop} {d : DefRec} {CX : World → CXT} {x : Str}
    (hn : l.most = some n) (hn2 : n ≤ sizeLine) (hdf : d.params.defaults = []) (hr : Room k callerA)
    (F : ∀ (w : World) (mg : Str → Option Value) (fa : Addr) (h : Heap), YP w h → h.Ns mainGlobals mg → mg d.name = some (.ref fa) → ∃ K : PySem.W.Frag, K.In h ∧ LawAtS l w K (CX w) k n x mg fa h)
    (hCX : ∀ (w : World) (H : Hp) (s : Shared) (e : Value) (s' : Shared), CX w [] H s (fun _ _ _ => False) e s' → False) :
    PySem.W.WalkO q loose XP YP l.row.toRowW d [] (fun f vs => PySem.call f vs) := by
  refine Att.attach_callB hn hdf fun w s₀ s₁ mg mb fa o pm cd doc a vs ns G Y ho hd hcd hmg hobj hints hlen hbits hg => ?_
  obtain ⟨K, KX, fd, cs, sp, hT, nT, C, hb, hsp, hF⟩ := F w mg fa _ Y G.T.g hmg
  exact law_callTs KX G.T.g G.T.b G.T.builtins G.T.nolimit hg hT nT C G.T.bmain hobj hints (Nat.le_trans hlen hn2) hr hF hb (fun H hH hS => hsp H a ns hlen hbits hH hS) fun H e s' => hCX w H s₁ e s'
theorem lawAt {w : World} {mg : Str → Option Value} {fa : Addr} {h : Heap} {K : PySem.W.Frag} (c : Says K w h) (G : h.Ns mainGlobals mg) (hmg : mg ("law" : Str) = some (.ref fa)) :
    LawAtS PySem.Challenge.rw_howevermany_k00_fractions_and_errors w K (L2N.CX Pg w) 15 63 "script" mg fa h := by
  have F := fun (x : Str) (st : Stmt) (i : Nat) (e : defs[i]? = some (x, st)) => def_at c.inn G c.c1 c.fv i e
  have Fl := F "law" s_law 55 rfl
  have ea : fa = ga K "law" := by
    have := hmg.symm.trans Fl.mg
    cases this
    rfl
  subst ea
  obtain ⟨fd, Fn⟩ := Fl.fun
  have B := bl_of c.inn G c.c4
  have E := bt_of c.inn G c.c4
  have C := cls_of c.inn G c.c2 c.c3 c.c4 c.c5 c.fv
  have Bd0 := bds_of c.inn G c.c4 c.bnd
  have most := most_of c.inn G c.c4
  have hlen : ∀ ds M R Z, cLaw (ptA K (cdA K (ga K "_law_pairs"))) (ptA K (cdA K (ga K "_law_wrong"))) (ptA K (cdA K (ga K "_law_reads"))) (ptA K (cdA K (ga K "_law_digits_bound"))) ds M R Z → ds.length = ["script"].length := fun ds M R Z ⟨_, e, _⟩ => by rw [e]; rfl
  refine ⟨fd, lamT K, spC K (cLaw (ptA K (cdA K (ga K "_law_pairs"))) (ptA K (cdA K (ga K "_law_wrong"))) (ptA K (cdA K (ga K "_law_reads"))) (ptA K (cdA K (ga K "_law_digits_bound")))), c.tab, c.nol, (fun p hp => by
    have := codeB_ok c.inn (c.cd p hp)
    obtain ⟨x, _, e⟩ := List.mem_map.mp hp
    rw [← e] at this ⊢
    exact this), ?_, ?_, ?_⟩
  · intro s u
    obtain ⟨oc, od, kV, doc, pm, an, cdv, ct, osl, e, _, _⟩ := Fn.ex
    rw [e]
    exact BindsTo.of_eq rfl
  · intro H a ns hl _ hH hS
    have nT : ∀ b, b ∈ (lamT K).map (·.2) → H b = some (.tbl #[]) := fun b hb => by
      obtain ⟨p, hp, e⟩ := List.mem_map.mp hb
      rw [← e]
      exact hH p hp
    refine ⟨fun b => if b ∈ (lamT K).map (·.2) then none else H b, [(ptA K (cdA K (ga K "_law_pairs")), .t (lamQ "_law_pairs")), (ptA K (cdA K (ga K "_law_wrong")), .t (lamQ "_law_wrong")), (ptA K (cdA K (ga K "_law_reads")), .t (lamQ "_law_reads")), (ptA K (cdA K (ga K "_law_digits_bound")), .t (lamQ "_law_digits_bound"))], [.lst (ns.map Dt.int)], fun d M' => d = .bl true, E00, ⟨fun b o e => ?_, fun p hp => ?_, fun p hp => ?_, c.nd⟩, ?_, ⟨ns, rfl, .head _, .tail _ (.head _), .tail _ (.tail _ (.head _)), .tail _ (.tail _ (.tail _ (.head _))), rfl, rfl⟩, fun d M' v F' H' e _ _ _ r => ?_, fun _ _ _ _ _ _ _ _ z => z.elim⟩
    · by_cases hb : b ∈ (lamT K).map (·.2)
      · rw [if_pos hb] at e; cases e
      · rw [if_neg hb] at e; exact e
    · have hd : p.1 ∈ (lamT K).map (·.2) := List.mem_map_of_mem (f := (·.1)) hp
      have ht : ∃ q, p.2 = .t q := by
        simp only [List.mem_cons, List.not_mem_nil, or_false] at hp
        rcases hp with rfl | rfl | rfl | rfl <;> exact ⟨_, rfl⟩
      obtain ⟨q, hq⟩ := ht
      rw [hq]
      exact TabS.nil (nT _ hd)
    · exact if_pos (List.mem_map_of_mem (f := (·.1)) hp)
    · refine ⟨.ref a, [], rfl, ⟨a, ns.map V.int, rfl, ?_, Reps.ints ns⟩, rfl⟩
      rcases hS with (e | ⟨o, e⟩) | e
      · refine .inl (.inl ?_)
        exact (if_neg (fun hb => by rw [nT a hb] at e; cases e)).trans e
      · refine .inl (.inr ⟨o, ?_⟩)
        exact (if_neg (fun hb => by rw [nT a hb] at e; cases e)).trans e
      · exact .inr e
    · subst e
      exact r
  · intro base KX GB TB
    exact fn_okN Fn sc_law hlen (joined F B E C Bd0 most (nod_of KX c.c4) fun x hx => TB _ (List.mem_map.mpr ⟨x, hx, rfl⟩))
end Hk

set_option Elab.async false
set_option linter.all false
set_option maxRecDepth 100000
set_option maxHeartbeats 0
open PySem PySem.W PySem.Calls PyProof.Rows
theorem PySem.Challenge.cw_howevermany_k00_fractions_and_errors_holds : PySem.Challenge.rw_howevermany_k00_fractions_and_errors.Holds := by
  w_on; o_law
  refine HandSHeadRun.head_imp (r := Hk.R) (q := Hk.qv) (H := Hk.hk) (ob := Hk.ob) (M := 9000) (loose := Hk.names) (d := HandSHeadRun.topDef Hk.R.prog 84) (kwd := []) Hk.ob_eq Hk.run
    (by kernel_rfl) (by kernel_rfl) (by kernel_rfl) (by rfl) (by first | assumption | decide +kernel) (by decide +kernel) ⟨rfl, rfl, rfl, rfl, rfl, by decide +kernel⟩ ?hw ?hc
  case hw => w_witness2
  case hc =>
    refine Hk.walk_ofTE (l := PySem.Challenge.rw_howevermany_k00_fractions_and_errors) (n := 63) (k := 15) (x := "script") (CX := fun w => L2N.CX Hk.Pg w) rfl (by decide) (by kernel_rfl) ⟨rfl, by decide, by decide⟩ ?F ?X
    case F =>
      intro w mg fa h Y G hmg0
      obtain ⟨K, c⟩ := Y
      have hmg : mg ("law" : PySem.Str) = some (.ref fa) := by
        have e : (HandSHeadRun.topDef Hk.R.prog 84).name = ("law" : PySem.Str) := by kernel_rfl
        rw [← e]
        exact hmg0
      exact ⟨K, c.inn, Hk.lawAt c G hmg⟩
    case X =>
      intro w H s e s' z
      obtain ⟨_, _, _, _, _, _, _, _, _, _, _, _, z⟩ := z
      exact z.elim

